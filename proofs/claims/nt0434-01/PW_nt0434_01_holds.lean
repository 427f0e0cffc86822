import PyProof.Rows.All
import Wide.All
import OpenK.AllK
import Wide.FinOn
import PySem.Challenge.RW_nt0434_01
-- the law of build_kpk: own texts, joined by a program of mine
set_option autoImplicit false
set_option linter.unusedVariables false
set_option Elab.async false
-- part KpCore
section
-- KpCore: abstract values, heap and combinators in continuation style (own work); written for the kernel's evaluation: recursors, bare Nat functions
set_option autoImplicit false
namespace Kp

inductive V where
  | unb | none | bool (b : Bool) | int (i : Int) | ref (n : Nat) | tup (vs : List V) | range (a b c : Int)

inductive AO where
  | no
  | list (xs : List V)
  | dict (ep : Nat) (kvs : List (V × V))
  | inst (fs : List V)

-- what a place of the heap stores: an object, or a list of small whole numbers packed in one number, sixteen bits each
inductive SO where
  | ob (o : AO)
  | pk (n len : Nat)

inductive Tr where
  | nil
  | node (v : SO) (l r : Tr)

noncomputable section
abbrev B := Bool

def Tr.getS (t : Tr) : Nat → SO :=
  @Tr.rec (fun _ => Nat → SO) (fun _ => .ob .no)
    (fun v _ _ gl gr i => @Nat.rec (fun _ => SO) v (fun j _ => @Nat.rec (fun _ => SO) (gl (Nat.div j (nat_lit 2))) (fun _ _ => gr (Nat.div j (nat_lit 2))) (Nat.mod j (nat_lit 2))) i) t
def unpk (len : Nat) : Nat → List V :=
  @Nat.rec (fun _ => Nat → List V) (fun _ => []) (fun _ ih n => .int (.ofNat (Nat.mod n (nat_lit 65536))) :: ih (Nat.div n (nat_lit 65536))) len
def SO.view (s : SO) : AO := @SO.rec (fun _ => AO) (fun o => o) (fun n len => .list (unpk len n)) s
def Tr.get (t : Tr) (i : Nat) : AO := SO.view (Tr.getS t i)

def Tr.putNil (o : SO) (f : Nat) : Nat → Tr :=
  @Nat.rec (fun _ => Nat → Tr) (fun _ => .nil)
    (fun _ ih i => @Nat.rec (fun _ => Tr) (.node o .nil .nil) (fun j _ => @Nat.rec (fun _ => Tr) (.node (.ob .no) (ih (Nat.div j (nat_lit 2))) .nil) (fun _ _ => .node (.ob .no) .nil (ih (Nat.div j (nat_lit 2)))) (Nat.mod j (nat_lit 2))) i) f

def Tr.putS (o : SO) (t : Tr) : Nat → Tr :=
  @Tr.rec (fun _ => Nat → Tr) (fun i => Tr.putNil o (Nat.succ i) i)
    (fun v l r pl pr i => @Nat.rec (fun _ => Tr) (.node o l r) (fun j _ => @Nat.rec (fun _ => Tr) (.node v (pl (Nat.div j (nat_lit 2))) r) (fun _ _ => .node v l (pr (Nat.div j (nat_lit 2)))) (Nat.mod j (nat_lit 2))) i) t
def Tr.put (o : AO) (t : Tr) (i : Nat) : Tr := Tr.putS (.ob o) t i

structure H where
  t : Tr
  n : Nat
  r : Nat

abbrev Loc := List V
abbrev XE := Loc → H → (V → H → Bool) → Bool
abbrev XL := Loc → H → (List V → H → Bool) → Bool
abbrev Fn := List V → H → (V → H → Bool) → Bool
abbrev KN := Loc → H → Bool
abbrev KR := V → H → Bool
abbrev XS := Loc → H → KN → KR → KN → KN → Bool

def getV (xs : List V) : Nat → V :=
  @List.rec V (fun _ => Nat → V) (fun _ => .unb) (fun x _ ih i => @Nat.rec (fun _ => V) x (fun j _ => ih j) i) xs
def setV (v : V) (xs : List V) : Nat → List V :=
  @List.rec V (fun _ => Nat → List V) (fun _ => []) (fun x r ih i => @Nat.rec (fun _ => List V) (v :: r) (fun j _ => x :: ih j) i) xs
-- strict: the new list is built before it is handed on
def setK (v : V) (xs : List V) : Nat → (List V → Bool) → Bool :=
  @List.rec V (fun _ => Nat → (List V → Bool) → Bool) (fun _ k => k []) (fun x r ih i k => @Nat.rec (fun _ => Bool) (k (v :: r)) (fun j _ => ih j fun ys => k (x :: ys)) i) xs
def snocK (v : V) (xs : List V) : (List V → Bool) → Bool :=
  @List.rec V (fun _ => (List V → Bool) → Bool) (fun k => k [v]) (fun x _ ih k => ih fun ys => k (x :: ys)) xs
def dropV (xs : List V) : Nat → List V :=
  @List.rec V (fun _ => Nat → List V) (fun _ => []) (fun x r ih i => @Nat.rec (fun _ => List V) (x :: r) (fun j _ => ih j) i) xs
def lenV (xs : List V) : Nat := @List.rec V (fun _ => Nat → Nat) (fun n => n) (fun _ _ ih n => ih (Nat.succ n)) xs (nat_lit 0)

-- ints
def bcase (b : Bool) (t f : Bool) : Bool := @Bool.rec (fun _ => Bool) f t b
def isub (a b : Nat) : Int := @Nat.rec (fun _ => Int) (.ofNat (Nat.sub a b)) (fun k _ => .negSucc k) (Nat.sub b a)
def iadd (a b : Int) : Int :=
  @Int.rec (fun _ => Int)
    (fun m => @Int.rec (fun _ => Int) (fun n => .ofNat (Nat.add m n)) (fun n => isub m (Nat.succ n)) b)
    (fun m => @Int.rec (fun _ => Int) (fun n => isub n (Nat.succ m)) (fun n => .negSucc (Nat.succ (Nat.add m n))) b) a
def ineg (a : Int) : Int := @Int.rec (fun _ => Int) (fun m => @Nat.rec (fun _ => Int) (.ofNat (nat_lit 0)) (fun k _ => .negSucc k) m) (fun n => .ofNat (Nat.succ n)) a
def imul (a b : Int) : Int := @Int.rec (fun _ => Int) (fun m => @Int.rec (fun _ => Int) (fun n => .ofNat (Nat.mul m n)) (fun _ => Int.mul a b) b) (fun _ => Int.mul a b) a
def bnot (x : Int) : Int := @Int.rec (fun _ => Int) (fun m => .negSucc m) (fun m => .ofNat m) x
def iand (a b : Int) : Int :=
  @Int.rec (fun _ => Int)
    (fun m => @Int.rec (fun _ => Int) (fun n => .ofNat (Nat.land m n)) (fun n => .ofNat (Nat.sub m (Nat.land m n))) b)
    (fun m => @Int.rec (fun _ => Int) (fun n => .ofNat (Nat.sub n (Nat.land n m))) (fun n => .negSucc (Nat.lor m n)) b) a
def ior (a b : Int) : Int := @Int.rec (fun _ => Int) (fun m => @Int.rec (fun _ => Int) (fun n => .ofNat (Nat.lor m n)) (fun _ => bnot (iand (bnot a) (bnot b))) b) (fun _ => bnot (iand (bnot a) (bnot b))) a
def ieq (a b : Int) : Bool :=
  @Int.rec (fun _ => Bool)
    (fun m => @Int.rec (fun _ => Bool) (fun n => Nat.beq m n) (fun _ => false) b)
    (fun m => @Int.rec (fun _ => Bool) (fun _ => false) (fun n => Nat.beq m n) b) a
def ilt (a b : Int) : Bool :=
  @Int.rec (fun _ => Bool)
    (fun m => @Int.rec (fun _ => Bool) (fun n => Nat.ble (Nat.succ m) n) (fun _ => false) b)
    (fun m => @Int.rec (fun _ => Bool) (fun _ => true) (fun n => Nat.ble (Nat.succ n) m) b) a
def bnt (b : Bool) : Bool := @Bool.rec (fun _ => Bool) true false b

abbrev Op := Int → Int → (Int → Bool) → Bool
def oadd : Op := fun a b k => k (iadd a b)
def osub : Op := fun a b k => k (iadd a (ineg b))
def small (a : Int) (t f : Bool) : Bool := bcase (ilt a (.ofNat (nat_lit 1152921504606846976))) (bcase (ilt (.negSucc (nat_lit 1152921504606846976)) a) t f) f
def omul : Op := fun a b k => small a (k (imul a b)) false
def nat2 (a b : Int) (f : Nat → Nat → Bool) : Bool :=
  @Int.rec (fun _ => Bool) (fun m => @Int.rec (fun _ => Bool) (fun n => f m n) (fun _ => false) b) (fun _ => false) a
def pos2 (a b : Int) (f : Int → Bool) : Bool := @Int.rec (fun _ => Bool) (fun n => @Nat.rec (fun _ => Bool) false (fun _ _ => bcase (Nat.ble n (nat_lit 1000000)) (f a) false) n) (fun _ => false) b
def ifdiv (a b : Int) : Int := @Int.rec (fun _ => Int) (fun m => @Int.rec (fun _ => Int) (fun n => .ofNat (Nat.div m n)) (fun _ => Int.fdiv a b) b) (fun _ => Int.fdiv a b) a
def ifmod (a b : Int) : Int := @Int.rec (fun _ => Int) (fun m => @Int.rec (fun _ => Int) (fun n => .ofNat (Nat.mod m n)) (fun _ => Int.fmod a b) b) (fun _ => Int.fmod a b) a
def odiv : Op := fun a b k => pos2 a b fun _ => k (ifdiv a b)
def omod : Op := fun a b k => pos2 a b fun _ => k (ifmod a b)
def oshl : Op := fun a b k => nat2 a b fun m n => bcase (Nat.ble n (nat_lit 60)) (bcase (Nat.ble m (nat_lit 1152921504606846976)) (k (.ofNat (Nat.shiftLeft m n))) false) false
def oshr : Op := fun a b k => nat2 a b fun m n => k (.ofNat (Nat.shiftRight m n))
def oand : Op := fun a b k => k (iand a b)
def oor : Op := fun a b k => k (ior a b)
def oxor : Op := fun a b k => k (iadd (ior a b) (ineg (iand a b)))

abbrev Cm := Int → Int → Bool
def ceq : Cm := ieq
def cne : Cm := fun a b => bnt (ieq a b)
def clt : Cm := ilt
def cle : Cm := fun a b => bnt (ilt b a)
def cgt : Cm := fun a b => ilt b a
def cge : Cm := fun a b => bnt (ilt a b)

def asInt (v : V) (k : Int → Bool) : Bool :=
  @V.rec (fun _ => Bool) (fun _ => Bool) false false (fun _ => false) (fun i => k i) (fun _ => false) (fun _ _ => false) (fun _ _ _ => false) false (fun _ _ _ _ => false) v
def asNat (v : V) (k : Nat → Bool) : Bool := asInt v fun i => @Int.rec (fun _ => Bool) (fun n => k n) (fun _ => false) i
def asRef (v : V) (k : Nat → Bool) : Bool :=
  @V.rec (fun _ => Bool) (fun _ => Bool) false false (fun _ => false) (fun _ => false) (fun n => k n) (fun _ _ => false) (fun _ _ _ => false) false (fun _ _ _ _ => false) v
def asTup (v : V) (k : List V → Bool) : Bool :=
  @V.rec (fun _ => Bool) (fun _ => Bool) false false (fun _ => false) (fun _ => false) (fun _ => false) (fun vs _ => k vs) (fun _ _ _ => false) false (fun _ _ _ _ => false) v
def truthy (v : V) (k : Bool → Bool) : Bool :=
  @V.rec (fun _ => Bool) (fun _ => Bool) false false (fun b => k b) (fun i => k (bnt (ieq i (.ofNat (nat_lit 0))))) (fun _ => false) (fun _ _ => false) (fun _ _ _ => false) false (fun _ _ _ _ => false) v
def known (v : V) (k : V → Bool) : Bool :=
  @V.rec (fun _ => Bool) (fun _ => Bool) false (k .none) (fun b => k (.bool b)) (fun i => k (.int i)) (fun n => k (.ref n)) (fun vs _ => k (.tup vs)) (fun a b c => k (.range a b c)) false (fun _ _ _ _ => false) v
def objCase (o : AO) (fl : List V → Bool) (fd : Nat → List (V × V) → Bool) (fi : List V → Bool) : Bool := @AO.rec (fun _ => Bool) false fl fd fi o
def getT (h : H) (n : Nat) : AO := @H.rec (fun _ => AO) (fun t _ _ => t.get n) h
def getS (h : H) (n : Nat) : SO := @H.rec (fun _ => SO) (fun t _ _ => t.getS n) h
def soCase (s : SO) (fo : AO → Bool) (fp : Nat → Nat → Bool) : Bool := @SO.rec (fun _ => Bool) fo fp s
def forceN (n : Nat) (k : Nat → Bool) : Bool := @Nat.rec (fun _ => Bool) (k (nat_lit 0)) (fun m _ => k (Nat.succ m)) n
def small16 (v : V) (k : Nat → Bool) : Bool := asNat v fun m => bcase (Nat.ble (Nat.succ m) (nat_lit 65536)) (k m) false
def digP (n p : Nat) : Nat := Nat.mod (Nat.div n p) (nat_lit 65536)
def setP (n p m : Nat) : Nat := Nat.add (Nat.sub n (Nat.mul (digP n p) p)) (Nat.mul m p)
def nthP (n len : Nat) (i : Int) (k : V → Bool) : Bool := @Int.rec (fun _ => Bool) (fun j => bcase (Nat.ble j (nat_lit 1000000)) (bcase (Nat.ble (Nat.succ j) len) (k (.int (.ofNat (digP n (Nat.pow (nat_lit 65536) j))))) false) false) (fun _ => false) i
def asList (v : V) (h : H) (k : Nat → List V → Bool) : Bool := asRef v fun n => @AO.rec (fun _ => Bool) false (fun xs => k n xs) (fun _ _ => false) (fun _ => false) (getT h n)

-- expressions
def xlit (v : V) : XE := fun _ h k => k v h
def xloc (i : Nat) : XE := fun l h k => known (getV l i) fun v => k v h
def xbin (o : Op) (a b : XE) : XE := fun l h k => a l h fun va h => b l h fun vb h => asInt va fun i => asInt vb fun j => o i j fun r => k (.int r) h
def xneg (a : XE) : XE := fun l h k => a l h fun va h => asInt va fun i => k (.int (ineg i)) h
def xinv (a : XE) : XE := fun l h k => a l h fun va h => asInt va fun i => k (.int (bnot i)) h
def xnot (a : XE) : XE := fun l h k => a l h fun va h => truthy va fun b => k (.bool (bnt b)) h
def xand (a b : XE) : XE := fun l h k => a l h fun va h => truthy va fun t => bcase t (b l h k) (k va h)
def xor (a b : XE) : XE := fun l h k => a l h fun va h => truthy va fun t => bcase t (k va h) (b l h k)
def xcmp (c : Cm) (a b : XE) : XE := fun l h k => a l h fun va h => b l h fun vb h => asInt va fun i => asInt vb fun j => k (.bool (c i j)) h
def xcmp2 (c d : Cm) (a b e : XE) : XE := fun l h k => a l h fun va h => b l h fun vb h => asInt va fun i => asInt vb fun j =>
  bcase (c i j) (e l h fun ve h => asInt ve fun m => k (.bool (d j m)) h) (k (.bool false) h)

def keyEq (xs : List V) : List V → Bool :=
  @List.rec V (fun _ => List V → Bool) (fun ys => @List.rec V (fun _ => Bool) true (fun _ _ _ => false) ys)
    (fun x _ ih ys => @List.rec V (fun _ => Bool) false (fun y s _ => asInt x fun a => asInt y fun b => bcase (ieq a b) (ih s) false) ys) xs
def allInts (xs : List V) : Bool := @List.rec V (fun _ => Bool) true (fun x _ ih => asInt x fun _ => ih) xs
def memInts (i : Int) (xs : List V) : (Bool → Bool) → Bool :=
  @List.rec V (fun _ => (Bool → Bool) → Bool) (fun k => k false) (fun x _ ih k => asInt x fun j => bcase (ieq j i) (bcase (allInts xs) (k true) false) (ih k)) xs
def dfind (key : List V) (kvs : List (V × V)) (no : Bool) : Nat → (Nat → V → Bool) → Bool :=
  @List.rec (V × V) (fun _ => Nat → (Nat → V → Bool) → Bool) (fun _ _ => no)
    (fun p _ ih n k => @Prod.rec V V (fun _ => Bool) (fun q v => asTup q fun q => bcase (keyEq q key) (k n v) (ih (Nat.succ n) k)) p) kvs
def asKey (v : V) (k : List V → Bool) : Bool := asTup v fun q => bcase (allInts q) (k q) false
def xin (a b : XE) : XE := fun l h k => a l h fun va h => b l h fun vb h => asRef vb fun n =>
  objCase (getT h n) (fun xs => asInt va fun i => memInts i xs fun r => k (.bool r) h) (fun _ kvs => asKey va fun q => dfind q kvs (k (.bool false) h) (nat_lit 0) fun _ _ => k (.bool true) h) (fun _ => false)
def xnotin (a b : XE) : XE := fun l h k => xin a b l h fun v h => truthy v fun b => k (.bool (bnt b)) h
def xattr (o : XE) (i : Nat) : XE := fun l h k => o l h fun v h => asRef v fun n => objCase (getT h n) (fun _ => false) (fun _ _ => false) (fun fs => known (getV fs i) fun v => k v h)
def nth (xs : List V) (i : Int) (k : V → Bool) : Bool := @Int.rec (fun _ => Bool) (fun n => bcase (Nat.ble n (nat_lit 1000000)) (known (getV xs n) k) false) (fun _ => false) i
def xsub (o i : XE) : XE := fun l h k => o l h fun v h => i l h fun w h =>
  @V.rec (fun _ => Bool) (fun _ => Bool) false false (fun _ => false) (fun _ => false)
    (fun n => soCase (getS h n) (fun o => objCase o (fun xs => asInt w fun j => nth xs j fun v => k v h) (fun _ kvs => asKey w fun q => dfind q kvs false (nat_lit 0) fun _ v => k v h) (fun _ => false)) (fun n len => asInt w fun j => nthP n len j fun v => k v h))
    (fun xs _ => asInt w fun j => nth xs j fun v => k v h) (fun _ _ _ => false) false (fun _ _ _ _ => false) v
def enil : XL := fun _ h k => k [] h
def econs (e : XE) (r : XL) : XL := fun l h k => e l h fun v h => r l h fun vs h => k (v :: vs) h
def xcall (f : Fn) (as : XL) : XE := fun l h k => as l h fun vs h => f vs h k
def alloc (o : AO) (h : H) (k : V → H → Bool) : Bool := @H.rec (fun _ => Bool) (fun t n r => k (.ref n) ⟨t.put o n, Nat.succ n, r⟩) h
def store (o : AO) (n : Nat) (h : H) (k : H → Bool) : Bool := @H.rec (fun _ => Bool) (fun t m r => bcase (Nat.ble r n) (k ⟨t.put o n, m, r⟩) false) h
def allocS (o : SO) (h : H) (k : V → H → Bool) : Bool := @H.rec (fun _ => Bool) (fun t n r => k (.ref n) ⟨t.putS o n, Nat.succ n, r⟩) h
def storeS (o : SO) (n : Nat) (h : H) (k : H → Bool) : Bool := @H.rec (fun _ => Bool) (fun t m r => bcase (Nat.ble r n) (k ⟨t.putS o n, m, r⟩) false) h
def xlist (es : XL) : XE := fun l h k => es l h fun vs h => bcase (Nat.ble (lenV vs) (nat_lit 1000000)) (alloc (.list vs) h k) false
def xtup (es : XL) : XE := fun l h k => es l h fun vs h => bcase (Nat.ble (lenV vs) (nat_lit 1000000)) (k (.tup vs) h) false
def xdict : XE := fun _ h k => alloc (.dict (nat_lit 0) []) h k
def xlen (a : XE) : XE := fun l h k => a l h fun v h => asList v h fun _ xs => bcase (Nat.ble (lenV xs) (nat_lit 1000000)) (k (.int (.ofNat (lenV xs))) h) false
def iabs (i : Int) : Int := @Int.rec (fun _ => Int) (fun n => .ofNat n) (fun n => .ofNat (Nat.succ n)) i
def xabs (a : XE) : XE := fun l h k => a l h fun v h => asInt v fun i => k (.int (iabs i)) h
def xmin (a b : XE) : XE := fun l h k => a l h fun v h => b l h fun w h => asInt v fun i => asInt w fun j => bcase (ilt j i) (k (.int j) h) (k (.int i) h)
def xrange1 (a : XE) : XE := fun l h k => a l h fun v h => asInt v fun i => small i (k (.range (.ofNat (nat_lit 0)) i (.ofNat (nat_lit 1))) h) false
def xrange2 (a b : XE) : XE := fun l h k => a l h fun v h => b l h fun w h => asInt v fun i => asInt w fun j => small i (small j (k (.range i j (.ofNat (nat_lit 1))) h) false) false
-- a step: 1 .. 1000, or -1
def stepOk (m : Int) : Bool := @Int.rec (fun _ => Bool) (fun n => bcase (Nat.ble (nat_lit 1) n) (Nat.ble n (nat_lit 1000)) false) (fun n => Nat.beq n (nat_lit 0)) m
def xrange3 (a b c : XE) : XE := fun l h k => a l h fun v h => b l h fun w h => c l h fun x h => asInt v fun i => asInt w fun j => asInt x fun m => small i (small j (bcase (stepOk m) (k (.range i j m) h) false) false) false
def xappend (o e : XE) : XE := fun l h k => o l h fun v h => asList v h fun _ _ => e l h fun w h => asList v h fun n xs => bcase (Nat.ble (lenV xs) (nat_lit 1000000)) (snocK w xs fun ys => store (.list ys) n h fun h => k .none h) false
def repK (v : V) (n : Nat) : List V → (List V → Bool) → Bool := @Nat.rec (fun _ => List V → (List V → Bool) → Bool) (fun xs k => k xs) (fun _ ih xs k => ih (v :: xs) k) n
def isZero (v : V) : Bool :=
  @V.rec (fun _ => Bool) (fun _ => Bool) false false (fun _ => false) (fun i => ieq i (.ofNat (nat_lit 0))) (fun _ => false) (fun _ _ => false) (fun _ _ _ => false) false (fun _ _ _ _ => false) v
def xrep (a b : XE) : XE := fun l h k => a l h fun v h => b l h fun w h => asInt w fun j => nat2 j j fun j _ => bcase (Nat.ble j (nat_lit 1000000)) (bcase (isZero v) (allocS (.pk (nat_lit 0) j) h k) (repK v j [] fun xs => alloc (.list xs) h k)) false
def xcat (a b : XE) : XE := fun l h k => a l h fun v h => b l h fun w h => asList v h fun _ xs => asList w h fun _ ys => alloc (.list (xs ++ ys)) h k
def xtake (a : XE) (n : Nat) : XE := fun l h k => a l h fun v h => asList v h fun _ xs => alloc (.list (xs.take n)) h k
def xisNil (a : XE) : XE := fun l h k => a l h fun v h => asList v h fun _ xs => @List.rec V (fun _ => Bool) (k (.bool true) h) (fun _ _ _ => k (.bool false) h) xs

-- statements: next, return, break, continue
def sseq (a b : XS) : XS := fun l h kn kr kb kc => a l h (fun l h => b l h kn kr kb kc) kr kb kc
def spass : XS := fun l h kn _ _ _ => kn l h
def sbreak : XS := fun l h _ _ kb _ => kb l h
def scont : XS := fun l h _ _ _ kc => kc l h
def sret (e : XE) : XS := fun l h _ kr _ _ => e l h fun v h => kr v h
def sexpr (e : XE) : XS := fun l h kn _ _ _ => e l h fun _ h => kn l h
def sset (i : Nat) (e : XE) : XS := fun l h kn _ _ _ => e l h fun v h => setK v l i fun l => kn l h
def saug (i : Nat) (o : Op) (e : XE) : XS := fun l h kn _ _ _ => known (getV l i) fun v => e l h fun w h => asInt v fun a => asInt w fun b => o a b fun r => setK (.int r) l i fun l => kn l h
def sets (is : List Nat) : List V → Loc → (Loc → Bool) → Bool :=
  @List.rec Nat (fun _ => List V → Loc → (Loc → Bool) → Bool) (fun vs l k => @List.rec V (fun _ => Bool) (k l) (fun _ _ _ => false) vs)
    (fun i _ ih vs l k => @List.rec V (fun _ => Bool) false (fun v r _ => setK v l i fun l => ih r l k) vs) is
def sunpack (is : List Nat) (e : XE) : XS := fun l h kn _ _ _ => e l h fun v h => asTup v fun vs => sets is vs l fun l => kn l h
def sattr (o : XE) (i : Nat) (e : XE) : XS := fun l h kn _ _ _ => e l h fun v h => o l h fun w h => asRef w fun n => objCase (getT h n) (fun _ => false) (fun _ _ => false) (fun fs => setK v fs i fun fs => store (.inst fs) n h fun h => kn l h)
def dsetK (v : V) (kvs : List (V × V)) : Nat → (List (V × V) → Bool) → Bool :=
  @List.rec (V × V) (fun _ => Nat → (List (V × V) → Bool) → Bool) (fun _ k => k []) (fun p r ih i k => @Nat.rec (fun _ => Bool) (@Prod.rec V V (fun _ => Bool) (fun q _ => k ((q, v) :: r)) p) (fun j _ => ih j fun ys => k (p :: ys)) i) kvs
def dsnocK (p : V × V) (kvs : List (V × V)) : (List (V × V) → Bool) → Bool :=
  @List.rec (V × V) (fun _ => (List (V × V) → Bool) → Bool) (fun k => k [p]) (fun x _ ih k => ih fun ys => k (x :: ys)) kvs
def lenD (kvs : List (V × V)) : Nat := @List.rec (V × V) (fun _ => Nat → Nat) (fun n => n) (fun _ _ ih n => ih (Nat.succ n)) kvs (nat_lit 0)
def ltLen (xs : List V) : Nat → Bool := @List.rec V (fun _ => Nat → Bool) (fun _ => false) (fun _ _ ih i => @Nat.rec (fun _ => Bool) true (fun j _ => ih j) i) xs
def ssub (o i e : XE) : XS := fun l h kn _ _ _ => e l h fun v h => o l h fun w h => i l h fun x h => asRef w fun n =>
  soCase (getS h n) (fun o => objCase o (fun xs => asNat x fun j => bcase (Nat.ble j (nat_lit 1000000)) (bcase (ltLen xs j) (setK v xs j fun xs => store (.list xs) n h fun h => kn l h) false) false)
    (fun ep kvs => asKey x fun q => dfind q kvs (bcase (Nat.ble (lenD kvs) (nat_lit 1000000)) (dsnocK (x, v) kvs fun kvs => store (.dict (Nat.succ ep) kvs) n h fun h => kn l h) false) (nat_lit 0) fun j _ => dsetK v kvs j fun kvs => store (.dict ep kvs) n h fun h => kn l h)
    (fun _ => false))
    (fun p len => asNat x fun j => bcase (Nat.ble j (nat_lit 1000000)) (bcase (Nat.ble (Nat.succ j) len) (small16 v fun m => forceN (setP p (Nat.pow (nat_lit 65536) j) m) fun p => storeS (.pk p len) n h fun h => kn l h) false) false)
def saugsub (o i : XE) (op : Op) (e : XE) : XS := fun l h kn _ _ _ => o l h fun w h => i l h fun x h => asList w h fun n xs => asNat x fun j => bcase (Nat.ble j (nat_lit 1000000)) (known (getV xs j) fun old => e l h fun v h => asList w h fun _ xs => asInt old fun a => asInt v fun b => op a b fun r =>
  bcase (ltLen xs j) (setK (.int r) xs j fun xs => store (.list xs) n h fun h => kn l h) false) false
def sif (c : XE) (a b : XS) : XS := fun l h kn kr kb kc => c l h fun v h => truthy v fun t => bcase t (a l h kn kr kb kc) (b l h kn kr kb kc)
def swhile (c : XE) (a : XS) (f : Nat) : XS :=
  @Nat.rec (fun _ => XS) (fun _ _ _ _ _ _ => false) (fun _ ih l h kn kr _ _ => c l h fun v h => truthy v fun t => bcase t (a l h (fun l h => ih l h kn kr kn kn) kr kn (fun l h => ih l h kn kr kn kn)) (kn l h)) f

abbrev Tgt := V → Loc → (Loc → Bool) → Bool
def tvar (i : Nat) : Tgt := fun v l k => setK v l i k
def ttup (is : List Nat) : Tgt := fun v l k => asTup v fun vs => sets is vs l k
def forTup (t : Tgt) (a : XS) (kn : KN) (kr : KR) (vs : List V) : KN :=
  @List.rec V (fun _ => KN) kn (fun v _ ih l h => t v l fun l => a l h ih kr kn ih) vs
def forRange (t : Tgt) (a : XS) (kn : KN) (kr : KR) (st : Int) (f : Nat) : Int → KN :=
  @Nat.rec (fun _ => Int → KN) (fun _ => kn) (fun _ ih i l h => t (.int i) l fun l => a l h (ih (iadd i st)) kr kn (ih (iadd i st))) f
def forList (t : Tgt) (a : XS) (kn : KN) (kr : KR) (n : Nat) (f : Nat) : Nat → KN :=
  @Nat.rec (fun _ => Nat → KN) (fun _ _ _ => false) (fun _ ih i l h => objCase (getT h n) (fun xs => @List.rec V (fun _ => Bool) (kn l h) (fun v _ _ => t v l fun l => a l h (ih (Nat.succ i)) kr kn (ih (Nat.succ i))) (dropV xs i)) (fun _ _ => false) (fun _ => false)) f
def keyAt (kvs : List (V × V)) (no : Bool) : Nat → (V → Bool) → Bool :=
  @List.rec (V × V) (fun _ => Nat → (V → Bool) → Bool) (fun _ _ => no) (fun p _ ih i k => @Nat.rec (fun _ => Bool) (@Prod.rec V V (fun _ => Bool) (fun q _ => k q) p) (fun j _ => ih j k) i) kvs
def forDict (t : Tgt) (a : XS) (kn : KN) (kr : KR) (n ep : Nat) (f : Nat) : Nat → KN :=
  @Nat.rec (fun _ => Nat → KN) (fun _ _ _ => false) (fun f' ih i l h => objCase (getT h n) (fun _ => false) (fun ep' kvs => bcase (Nat.beq ep ep') (bcase (Nat.beq (lenD kvs) (Nat.add f' i)) (keyAt kvs (kn l h) i fun v => t v l fun l => a l h (ih (Nat.succ i)) kr kn (ih (Nat.succ i))) false) false) (fun _ => false)) f
def rcount (a b c : Int) : Nat := @Int.rec (fun _ => Nat)
  (fun _ => Int.toNat (Int.fdiv (iadd (iadd (iadd b (ineg a)) c) (.negSucc (nat_lit 0))) c))
  (fun _ => Int.toNat (Int.fdiv (iadd (iadd (iadd a (ineg b)) (ineg c)) (.negSucc (nat_lit 0))) (ineg c))) c
def sfor (t : Tgt) (it : XE) (a : XS) : XS := fun l h kn kr _ _ => it l h fun v h =>
  @V.rec (fun _ => Bool) (fun _ => Bool) false false (fun _ => false) (fun _ => false)
    (fun n => objCase (getT h n) (fun xs => forList t a kn kr n (Nat.succ (lenV xs)) (nat_lit 0) l h) (fun ep kvs => forDict t a kn kr n ep (Nat.succ (lenD kvs)) (nat_lit 0) l h) (fun _ => false))
    (fun vs _ => forTup t a kn kr vs l h) (fun x y z => forRange t a kn kr z (rcount x y z) x l h) false (fun _ _ _ _ => false) v

def fn (n : Nat) (unbs : List V) (body : XS) : Fn := fun as h k => bcase (Nat.beq (lenV as) n) (body (as ++ unbs) h (fun _ h => k .none h) k (fun _ _ => false) (fun _ _ => false)) false
def asNone (v : V) (k : Bool) : Bool :=
  @V.rec (fun _ => Bool) (fun _ => Bool) false k (fun _ => false) (fun _ => false) (fun _ => false) (fun _ _ => false) (fun _ _ _ => false) false (fun _ _ _ _ => false) v
def newInst (init : Fn) (fs : List V) : Fn := fun as h k => alloc (.inst fs) h fun v h => init (v :: as) h fun r h => asNone r (k v h)
end
end Kp
end
-- part KpRel
section
set_option autoImplicit false
namespace Kp
open PySem PySem.W PyProof.Rows PySem.Calls

abbrev Phi := List (Addr × Addr)

mutual
def VR (φ : Phi) (h : Heap) : V → Value → Prop
  | .unb, _ => False
  | .none, u => u = .none
  | .bool b, u => u = .bool b
  | .int i, u => ∃ t, u = .int i t
  | .ref n, u => ∃ a d, φ[n]? = some (a, d) ∧ u = .ref a
  | .tup xs, u => ∃ a us, u = .ref a ∧ IsTup h a (List.toArray us) ∧ VsR φ h xs us
  | .range a b c, u => ∃ r t x y, u = .ref r ∧ IsRange h r a b c t x y ∧ Builtin.Range.small a b c = true ∧ (0 < c ∨ c = -1)
def VsR (φ : Phi) (h : Heap) : List V → List Value → Prop
  | [], us => us = []
  | x :: xs, us => ∃ u r, us = u :: r ∧ VR φ h x u ∧ VsR φ h xs r
end

-- what is never turned: tuples, records, records
def Im (o : Obj) : Prop := (o.cls = .type "tuple" ∧ ∃ xs n, o.data = .seq xs n) ∨ (o.cls = .type "range" ∧ ∃ vs, o.data = .fields vs) ∨ o.data = .plain
def St (h h' : Heap) : Prop := ∀ b o, h.get? b = some o → Im o → h'.get? b = some o
theorem St.refl (h : Heap) : St h h := fun _ _ e _ => e
theorem St.trans {a b c : Heap} (x : St a b) (y : St b c) : St a c := fun q o e i => y q o (x q o e i) i

theorem pre_get {φ φ' : Phi} (p : φ <+: φ') {n : Nat} {x : Addr × Addr} (e : φ[n]? = some x) : φ'[n]? = some x := by
  obtain ⟨z, rfl⟩ := p
  rw [List.getElem?_append_left (List.getElem?_eq_some_iff.mp e).1]
  exact e

mutual
theorem VR.st {φ φ' : Phi} {h h' : Heap} (p : φ <+: φ') (k : St h h') : ∀ {v : V} {u : Value}, VR φ h v u → VR φ' h' v u
  | .unb, _, r => r
  | .none, _, r => r
  | .bool _, _, r => r
  | .int _, _, r => r
  | .ref _, _, ⟨a, d, e, q⟩ => ⟨a, d, pre_get p e, q⟩
  | .tup _, _, ⟨a, us, q, ⟨o, ho, hc, n, hd⟩, r⟩ => ⟨a, us, q, ⟨o, k _ _ ho (.inl ⟨hc, _, n, hd⟩), hc, n, hd⟩, VsR.st p k r⟩
  | .range _ _ _, _, ⟨r, t, x, y, q, z, sm⟩ => ⟨r, t, x, y, q, k _ _ z (.inr (.inl ⟨rfl, _, rfl⟩)), sm⟩
theorem VsR.st {φ φ' : Phi} {h h' : Heap} (p : φ <+: φ') (k : St h h') : ∀ {vs : List V} {us : List Value}, VsR φ h vs us → VsR φ' h' vs us
  | [], _, r => r
  | _ :: _, _, ⟨u, r, e, x, y⟩ => ⟨u, r, e, VR.st p k x, VsR.st p k y⟩
end

section
variable {φ : Phi} {h : Heap}
theorem VR.int {i : Int} {u : Value} (r : VR φ h (.int i) u) : ∃ t, u = .int i t := r
theorem VR.bool {b : Bool} {u : Value} (r : VR φ h (.bool b) u) : u = .bool b := r
theorem VR.mkInt (i : Int) (t : Tok) : VR φ h (.int i) (.int i t) := ⟨t, rfl⟩
theorem VR.mkBool (b : Bool) : VR φ h (.bool b) (.bool b) := rfl
theorem VsR.nil : VsR φ h [] [] := rfl
theorem VsR.cons {x : V} {xs : List V} {u : Value} {us : List Value} (a : VR φ h x u) (b : VsR φ h xs us) : VsR φ h (x :: xs) (u :: us) := ⟨u, us, rfl, a, b⟩
theorem VsR.length : ∀ {vs : List V} {us : List Value}, VsR φ h vs us → us.length = vs.length
  | [], _, r => by rw [show _ = [] from r]; rfl
  | _ :: _, _, ⟨u, r, e, _, y⟩ => by rw [e, List.length_cons, List.length_cons, VsR.length y]
theorem VsR.get : ∀ {vs : List V} {us : List Value}, VsR φ h vs us → ∀ {i : Nat} {v : V}, vs[i]? = some v → ∃ u, us[i]? = some u ∧ VR φ h v u
  | [], _, _, i, v, e => by simp at e
  | x :: xs, _, ⟨u, r, e, a, y⟩, 0, v, q => by
    subst e
    obtain rfl : x = v := by simpa using q
    exact ⟨u, rfl, a⟩
  | x :: xs, _, ⟨u, r, e, a, y⟩, i + 1, v, q => by
    subst e
    exact VsR.get y (by simpa using q)
theorem VsR.append : ∀ {vs ws : List V} {us zs : List Value}, VsR φ h vs us → VsR φ h ws zs → VsR φ h (vs ++ ws) (us ++ zs)
  | [], _, _, _, r, s => by rw [show _ = [] from r]; exact s
  | _ :: _, _, _, _, ⟨u, r, e, x, y⟩, s => ⟨u, r ++ _, by rw [e]; rfl, x, VsR.append y s⟩
theorem VsR.set : ∀ {vs : List V} {us : List Value}, VsR φ h vs us → ∀ {i : Nat} {v : V} {u : Value}, VR φ h v u → VsR φ h (setV v vs i) (us.set i u)
  | [], _, r, i, v, u, _ => by rw [show _ = [] from r]; exact rfl
  | x :: xs, _, ⟨u, r, e, a, y⟩, 0, v, w, z => by subst e; exact ⟨w, r, rfl, z, y⟩
  | x :: xs, _, ⟨u, r, e, a, y⟩, i + 1, v, w, z => by subst e; exact ⟨u, _, rfl, a, VsR.set y z⟩
theorem VsR.take : ∀ {vs : List V} {us : List Value}, VsR φ h vs us → ∀ (n : Nat), VsR φ h (vs.take n) (us.take n)
  | _, _, _, 0 => rfl
  | [], _, r, n + 1 => by rw [show _ = [] from r]; exact rfl
  | x :: xs, _, ⟨u, r, e, a, y⟩, n + 1 => by subst e; exact ⟨u, _, rfl, a, VsR.take y n⟩
theorem VsR.rep {v : V} {u : Value} (a : VR φ h v u) : ∀ n : Nat, VsR φ h (List.replicate n v) (List.replicate n u)
  | 0 => rfl
  | n + 1 => ⟨u, _, rfl, a, VsR.rep a n⟩
end

theorem getV_eq : ∀ (xs : List V) (i : Nat), getV xs i = (xs[i]?).getD .unb
  | [], i => rfl
  | x :: xs, 0 => rfl
  | x :: xs, i + 1 => by
    have : getV (x :: xs) (i + 1) = getV xs i := rfl
    rw [this, getV_eq xs i]; simp
theorem getV_some {xs : List V} {i : Nat} (h : getV xs i ≠ .unb) : xs[i]? = some (getV xs i) := by
  rw [getV_eq] at h ⊢
  cases e : xs[i]? with
  | none => rw [e] at h; exact absurd rfl h
  | some v => rfl
theorem getV_set (v : V) : ∀ (xs : List V) (i j : Nat), i < xs.length → getV (setV v xs i) j = if i = j then v else getV xs j
  | [], i, _, h => by simp at h
  | x :: xs, 0, 0, _ => rfl
  | x :: xs, 0, j + 1, _ => by simp; rfl
  | x :: xs, i + 1, 0, _ => by simp; rfl
  | x :: xs, i + 1, j + 1, h => by
    have : getV (setV v (x :: xs) (i + 1)) (j + 1) = getV (setV v xs i) j := rfl
    rw [this, getV_set v xs i j (by simpa using h)]
    have e : getV (x :: xs) (j + 1) = getV xs j := rfl
    rw [e]
    simp
theorem setV_len (v : V) : ∀ (xs : List V) (i : Nat), (setV v xs i).length = xs.length
  | [], _ => rfl
  | _ :: _, 0 => rfl
  | x :: xs, i + 1 => by
    have : setV v (x :: xs) (i + 1) = x :: setV v xs i := rfl
    rw [this, List.length_cons, setV_len v xs i, List.length_cons]
theorem setK_eq (v : V) : ∀ (xs : List V) (i : Nat) (k : List V → Bool), setK v xs i k = k (setV v xs i)
  | [], _, _ => rfl
  | _ :: _, 0, _ => rfl
  | x :: xs, i + 1, k => by
    have : setK v (x :: xs) (i + 1) k = setK v xs i fun ys => k (x :: ys) := rfl
    rw [this, setK_eq v xs i]; rfl
theorem snocK_eq (v : V) : ∀ (xs : List V) (k : List V → Bool), snocK v xs k = k (xs ++ [v])
  | [], _ => rfl
  | x :: xs, k => by
    have : snocK v (x :: xs) k = snocK v xs fun ys => k (x :: ys) := rfl
    rw [this, snocK_eq v xs]; rfl
theorem lenV_aux : ∀ (xs : List V) (n : Nat), @List.rec V (fun _ => Nat → Nat) (fun n => n) (fun _ _ ih n => ih (Nat.succ n)) xs n = n + xs.length
  | [], n => rfl
  | x :: xs, n => by
    show @List.rec V (fun _ => Nat → Nat) (fun n => n) (fun _ _ ih n => ih (Nat.succ n)) xs (Nat.succ n) = _
    rw [lenV_aux xs (Nat.succ n), List.length_cons]; omega
theorem lenV_eq (xs : List V) : lenV xs = xs.length := by
  have := lenV_aux xs 0
  unfold lenV
  rw [this]; omega
theorem ltLen_eq : ∀ (xs : List V) (i : Nat), ltLen xs i = decide (i < xs.length)
  | [], i => by show false = _; simp
  | x :: xs, 0 => by show true = _; simp
  | x :: xs, i + 1 => by
    have : ltLen (x :: xs) (i + 1) = ltLen xs i := rfl
    rw [this, ltLen_eq xs i, List.length_cons]; simp
theorem dropV_eq : ∀ (xs : List V) (i : Nat), dropV xs i = xs.drop i
  | [], i => by simp; rfl
  | x :: xs, 0 => rfl
  | x :: xs, i + 1 => by
    have : dropV (x :: xs) (i + 1) = dropV xs i := rfl
    rw [this, dropV_eq xs i]; rfl
theorem repK_eq (v : V) : ∀ (n : Nat) (xs : List V) (k : List V → Bool), repK v n xs k = k (List.replicate n v ++ xs)
  | 0, _, _ => rfl
  | n + 1, xs, k => by
    have : repK v (n + 1) xs k = repK v n (v :: xs) k := rfl
    rw [this, repK_eq v n, List.replicate_succ']; simp

-- the trie
theorem tget_nil (i : Nat) : Tr.getS .nil i = .ob .no := rfl
theorem tget_node (v : SO) (l r : Tr) : ∀ i, Tr.getS (.node v l r) i = match i with
    | 0 => v
    | j + 1 => if j % 2 = 0 then l.getS (j / 2) else r.getS (j / 2)
  | 0 => rfl
  | j + 1 => by
    show @Nat.rec (fun _ => SO) (l.getS (Nat.div j 2)) (fun _ _ => r.getS (Nat.div j 2)) (Nat.mod j 2) = _
    have e1 : Nat.div j 2 = j / 2 := rfl
    have e2 : Nat.mod j 2 = j % 2 := rfl
    rw [e1, e2]
    dsimp only
    cases q : j % 2 with
    | zero => exact (if_pos rfl).symm
    | succ n => exact (if_neg (Nat.succ_ne_zero n)).symm
theorem tputNil_succ (o : SO) (f : Nat) : ∀ i, Tr.putNil o (f + 1) i = match i with
    | 0 => .node o .nil .nil
    | j + 1 => if j % 2 = 0 then .node (.ob .no) (Tr.putNil o f (j / 2)) .nil else .node (.ob .no) .nil (Tr.putNil o f (j / 2))
  | 0 => rfl
  | j + 1 => by
    show @Nat.rec (fun _ => Tr) (.node (.ob .no) (Tr.putNil o f (Nat.div j 2)) .nil) (fun _ _ => .node (.ob .no) .nil (Tr.putNil o f (Nat.div j 2))) (Nat.mod j 2) = _
    have e1 : Nat.div j 2 = j / 2 := rfl
    have e2 : Nat.mod j 2 = j % 2 := rfl
    rw [e1, e2]
    dsimp only
    cases q : j % 2 with
    | zero => exact (if_pos rfl).symm
    | succ n => exact (if_neg (Nat.succ_ne_zero n)).symm
theorem tget_putNil (o : SO) : ∀ (f i j : Nat), i < f → Tr.getS (Tr.putNil o f i) j = if i = j then o else .ob .no
  | 0, _, _, h => by omega
  | f + 1, i, j, h => by
    rw [tputNil_succ]
    cases i with
    | zero =>
      dsimp only
      rw [tget_node]
      cases j with
      | zero => simp
      | succ j => dsimp only; split <;> simp [tget_nil]
    | succ i =>
      dsimp only
      by_cases p : i % 2 = 0
      · rw [if_pos p, tget_node]
        cases j with
        | zero => simp
        | succ j =>
          dsimp only
          by_cases q : j % 2 = 0
          · rw [if_pos q, tget_putNil o f _ _ (by omega)]
            by_cases e : i = j
            · subst e; simp
            · rw [if_neg (by omega), if_neg (by omega)]
          · rw [if_neg q, tget_nil, if_neg (by intro e; apply q; have : i = j := by omega
                                               rw [← this]; exact p)]
      · rw [if_neg p, tget_node]
        cases j with
        | zero => simp
        | succ j =>
          dsimp only
          by_cases q : j % 2 = 0
          · rw [if_pos q, tget_nil, if_neg (by intro e; apply p; have : i = j := by omega
                                               rw [this]; exact q)]
          · rw [if_neg q, tget_putNil o f _ _ (by omega)]
            by_cases e : i = j
            · subst e; simp
            · rw [if_neg (by omega), if_neg (by omega)]
theorem tput_nil (o : SO) (i : Nat) : Tr.putS o .nil i = Tr.putNil o (i + 1) i := rfl
theorem tput_node (o v : SO) (l r : Tr) : ∀ i, Tr.putS o (.node v l r) i = match i with
    | 0 => .node o l r
    | j + 1 => if j % 2 = 0 then .node v (l.putS o (j / 2)) r else .node v l (r.putS o (j / 2))
  | 0 => rfl
  | j + 1 => by
    show @Nat.rec (fun _ => Tr) (.node v (l.putS o (Nat.div j 2)) r) (fun _ _ => .node v l (r.putS o (Nat.div j 2))) (Nat.mod j 2) = _
    have e1 : Nat.div j 2 = j / 2 := rfl
    have e2 : Nat.mod j 2 = j % 2 := rfl
    rw [e1, e2]
    dsimp only
    cases q : j % 2 with
    | zero => exact (if_pos rfl).symm
    | succ n => exact (if_neg (Nat.succ_ne_zero n)).symm
theorem tget_putS (o : SO) : ∀ (t : Tr) (i j : Nat), (t.putS o i).getS j = if i = j then o else t.getS j
  | .nil, i, j => by
    rw [tput_nil, tget_putNil o _ _ _ (Nat.lt_succ_self i), tget_nil]
  | .node v l r, i, j => by
    rw [tput_node]
    cases i with
    | zero =>
      dsimp only
      rw [tget_node, tget_node]
      cases j with
      | zero => simp
      | succ j => simp
    | succ i =>
      dsimp only
      by_cases p : i % 2 = 0
      · rw [if_pos p, tget_node, tget_node]
        cases j with
        | zero => simp
        | succ j =>
          dsimp only
          by_cases q : j % 2 = 0
          · rw [if_pos q, if_pos q, tget_putS o l]
            by_cases e : i = j
            · subst e; simp
            · rw [if_neg (by omega), if_neg (by omega)]
          · rw [if_neg q, if_neg q, if_neg (by intro e; apply q; have : i = j := by omega
                                               rw [← this]; exact p)]
      · rw [if_neg p, tget_node, tget_node]
        cases j with
        | zero => simp
        | succ j =>
          dsimp only
          by_cases q : j % 2 = 0
          · rw [if_pos q, if_pos q, if_neg (by intro e; apply p; have : i = j := by omega
                                               rw [this]; exact q)]
          · rw [if_neg q, if_neg q, tget_putS o r]
            by_cases e : i = j
            · subst e; simp
            · rw [if_neg (by omega), if_neg (by omega)]

theorem tget_put (o : AO) (t : Tr) (i j : Nat) : (t.put o i).get j = if i = j then o else t.get j := by
  show SO.view ((t.putS (.ob o) i).getS j) = _
  rw [tget_putS]; split <;> rfl
theorem tget_same (o : SO) (t : Tr) (i j : Nat) : (t.putS o i).get j = (t.put o.view i).get j := by
  rw [tget_put]
  show SO.view ((t.putS o i).getS j) = _
  rw [tget_putS]; split <;> rfl
-- packed lists
theorem forceN_eq (n : Nat) (k : Nat → Bool) : forceN n k = k n := by cases n <;> rfl
theorem unpk_succ (len n : Nat) : unpk (len + 1) n = .int (.ofNat (n % 65536)) :: unpk len (n / 65536) := rfl
theorem unpk_len : ∀ (len n : Nat), (unpk len n).length = len
  | 0, _ => rfl
  | len + 1, n => by rw [unpk_succ, List.length_cons, unpk_len len]
theorem unpk_zero : ∀ len : Nat, unpk len 0 = List.replicate len (.int (.ofNat 0))
  | 0 => rfl
  | len + 1 => by rw [unpk_succ, List.replicate_succ, ← unpk_zero len]
theorem digP_eq (n p : Nat) : digP n p = n / p % 65536 := rfl
theorem setP_eq (n p m : Nat) : setP n p m = n - digP n p * p + m * p := rfl
theorem digP_succ (n j : Nat) : digP n (65536 ^ (j + 1)) = digP (n / 65536) (65536 ^ j) := by
  rw [digP_eq, digP_eq, Nat.pow_succ, Nat.mul_comm, Nat.div_div_eq_div_mul]
theorem unpk_get : ∀ (len n j : Nat), j < len → (unpk len n)[j]? = some (.int (.ofNat (digP n (65536 ^ j))))
  | 0, _, _, h => by omega
  | len + 1, n, 0, _ => by rw [unpk_succ, digP_eq]; simp
  | len + 1, n, j + 1, h => by rw [unpk_succ, List.getElem?_cons_succ, unpk_get len _ j (by omega), digP_succ]
theorem unpk_set : ∀ (len n j m : Nat), j < len → m < 65536 → unpk len (setP n (65536 ^ j) m) = setV (.int (.ofNat m)) (unpk len n) j
  | 0, _, _, _, h, _ => by omega
  | len + 1, n, 0, m, _, hm => by
    rw [unpk_succ, unpk_succ, setP_eq, digP_eq, Nat.pow_zero]
    have e1 : (n - n / 1 % 65536 * 1 + m * 1) % 65536 = m := by omega
    have e2 : (n - n / 1 % 65536 * 1 + m * 1) / 65536 = n / 65536 := by omega
    rw [e1, e2]; rfl
  | len + 1, n, j + 1, m, h, hm => by
    rw [unpk_succ, unpk_succ]
    have hA : digP (n / 65536) (65536 ^ j) * 65536 ^ j ≤ n / 65536 := by
      rw [digP_eq]
      exact Nat.le_trans (Nat.mul_le_mul_right _ (Nat.mod_le _ _)) (Nat.div_mul_le_self _ _)
    have e0 : setP n (65536 ^ (j + 1)) m = n - digP (n / 65536) (65536 ^ j) * 65536 ^ j * 65536 + m * 65536 ^ j * 65536 := by
      rw [setP_eq, digP_succ, Nat.pow_succ, Nat.mul_assoc, Nat.mul_assoc]
    have e1 : setP n (65536 ^ (j + 1)) m % 65536 = n % 65536 := by rw [e0]; omega
    have e2 : setP n (65536 ^ (j + 1)) m / 65536 = setP (n / 65536) (65536 ^ j) m := by rw [e0, setP_eq]; omega
    rw [e1, e2, unpk_set len _ j m (by omega) hm]; rfl
theorem nthP_eq (n len : Nat) (i : Int) (k : V → Bool) : nthP n len i k = nth (unpk len n) i k := by
  cases i with
  | negSucc => rfl
  | ofNat j =>
    show bcase (Nat.ble j 1000000) (bcase (Nat.ble (j + 1) len) (k (.int (.ofNat (digP n (65536 ^ j))))) false) false = bcase (Nat.ble j 1000000) (known (getV (unpk len n) j) k) false
    have : bcase (Nat.ble (j + 1) len) (k (.int (.ofNat (digP n (65536 ^ j))))) false = known (getV (unpk len n) j) k := by
      rw [getV_eq]
      by_cases q : j < len
      · rw [unpk_get len n j q, show Nat.ble (j + 1) len = true from Nat.ble_eq_true_of_le q]; rfl
      · rw [List.getElem?_eq_none (by rw [unpk_len]; omega), show Nat.ble (j + 1) len = false from by
          cases z : Nat.ble (j + 1) len with
          | false => rfl
          | true => exact absurd (Nat.le_of_ble_eq_true z) q]
        rfl
    rw [this]
theorem sub_so (s : SO) (w : V) (k : V → Bool) (fd : Nat → List (V × V) → Bool) (fi : List V → Bool) :
    soCase s (fun o => objCase o (fun xs => asInt w fun j => nth xs j k) fd fi) (fun n len => asInt w fun j => nthP n len j k) = objCase s.view (fun xs => asInt w fun j => nth xs j k) fd fi := by
  cases s with
  | ob o => rfl
  | pk n len =>
    show asInt w (fun j => nthP n len j k) = asInt w (fun j => nth (unpk len n) j k)
    congr 1
    funext j
    exact nthP_eq n len j k
end Kp
end
-- part KpState
section
set_option autoImplicit false
namespace Kp
open PySem PySem.W PyProof.Rows PySem.Calls

def fieldNames : List Str := ["files", "ranks", "size", "full", "has_double", "has_castling", "file_masks", "rank_masks", "rays", "king", "knight", "pawn", "castles", "rights_lost"]

structure Base where
  prog : Program
  w : World
  h₀ : Heap
  C : Addr
  fI : Addr
  mg : Str → Option Value
  mb : Str → Option Value
  K : Frag
  X : K.In h₀
  lim : h₀.NoLimit
  g : h₀.Ns mainGlobals mg
  b : h₀.Ns builtinsNs mb
  nob : ∀ x : Str, x = "len" ∨ x = "abs" ∨ x = "min" ∨ x = "range" → mg x = none ∧ mb x = bootBuiltins x
  cset : findIn K (.ref C) "__setattr__" = some (some (.builtin "object.__setattr__"))
  cover : plainOver K C = true
  cdict : hasDictIn K C = true
  ctake : ∀ nm ∈ fieldNames, takerIn K C nm = some none
  cget : ∀ nm ∈ fieldNames, plainGet K C nm = true
  cfind : ∀ nm ∈ fieldNames, ∃ attr, findIn K (.ref C) nm = some attr ∧ noGet K attr = true
  cmake : makesIn K C = true
  cinit : findIn K (.ref C) "__init__" = some (some (.ref fI))
  cfn : isFn K (.ref fI) = true
  -- what a stretch of the run leaves as it stands, and the count of tracked objects that it may not turn
  fz : Addr → Obj → Prop
  ro : Nat

abbrev Base.knd (G : Base) : HeapKind G.prog G.w (List Int) := tupleKind (intKind G.prog G.w)
abbrev Base.M (G : Base) : Model := model G.prog G.w

def cnt : List V → Nat
  | [] => 0
  | .unb :: r => cnt r
  | _ :: r => cnt r + 1

structure FieldsR (φ : Phi) (h : Heap) (fs : List V) (es : List DictEntry) : Prop where
  get : ∀ i nm, fieldNames[i]? = some nm → getV fs i ≠ .unb → ∃ u, getL nm es = some (some u) ∧ VR φ h (getV fs i) u
  keys : ∀ e ∈ es, ∃ x t, e.key = .str x t
  few : es.length ≤ cnt fs
  size : fs.length = 14

def DR (G : Base) (φ : Phi) (h : Heap) : List (V × V) → List (List Int × Addr × Value) → Prop
  | [], xs => xs = []
  | p :: r, xs => ∃ q y s, xs = (q, y) :: s ∧ p.1 = .tup (q.map V.int) ∧ IsTupleKey (intKind G.prog G.w) h q y.1 ∧ VR φ h p.2 y.2 ∧ DR G φ h r s

def OR (G : Base) (φ : Phi) (h : Heap) : AO → Addr → Addr → Prop
  | .no, _, _ => False
  | .list xs, a, d => a = d ∧ ∃ us, PlainL h d (List.toArray us) ∧ VsR φ h xs us
  | .dict ep kvs, a, d => a = d ∧ ∃ xs, h.get? d = some { cls := .type "dict", data := .dict (List.toArray (xs.map (entryOfKey G.knd))) ep } ∧ (xs.map (·.1)).Nodup ∧ DR G φ h kvs xs
  | .inst fs, a, d => h.get? a = some (instObj G.C d) ∧ ∃ es n, h.get? d = some (dictOf es n) ∧ FieldsR φ h fs es

structure HR (G : Base) (φ : Phi) (η : H) (h : Heap) : Prop where
  keep : ∀ b o, G.h₀.get? b = some o → h.get? b = some o
  len : φ.length = η.n
  obj : ∀ i a d, φ[i]? = some (a, d) → OR G φ h (η.t.get i) a d
  above : ∀ p ∈ φ, G.h₀.get? p.2 = none ∧ sysModules < p.2
  nd : (φ.map (·.2)).Nodup
  frz : ∀ b o, G.fz b o → h.get? b = some o
  aboveF : ∀ i p, φ[i]? = some p → G.ro ≤ i → ∀ o, ¬ G.fz p.2 o
  ror : η.r = G.ro

structure Step (φ φ' : Phi) (s s' : Shared) : Prop where
  pre : φ <+: φ'
  ev : ∀ b o, s.heap.get? b = some o → (∀ p ∈ φ, p.2 ≠ b) → s'.heap.get? b = some o
  fresh : ∀ p ∈ φ', p ∈ φ ∨ s.heap.get? p.2 = none
  gens : s'.gens = s.gens
  drawn : s'.drawn = s.drawn
  os : s'.os = s.os

structure StepL (L : Addr) (φ φ' : Phi) (s s' : Shared) : Prop where
  pre : φ <+: φ'
  ev : ∀ b o, s.heap.get? b = some o → (∀ p ∈ φ, p.2 ≠ b) → b ≠ L → s'.heap.get? b = some o
  fresh : ∀ p ∈ φ', p ∈ φ ∨ s.heap.get? p.2 = none
  gens : s'.gens = s.gens
  drawn : s'.drawn = s.drawn
  os : s'.os = s.os

theorem OR.alive {G : Base} {φ : Phi} {h : Heap} {o : AO} {a d : Addr} (r : OR G φ h o a d) : ∃ ob, h.get? d = some ob ∧ ¬ Im ob := by
  cases o with
  | no => exact r.elim
  | list xs =>
    obtain ⟨-, us, ⟨ob, n, ho, hc, _, hd⟩, -⟩ := r
    refine ⟨ob, ho, fun i => ?_⟩
    rcases i with ⟨i, -⟩ | ⟨-, _, i⟩ | i
    · rw [hc] at i; exact absurd i (by decide)
    · rw [hd] at i; cases i
    · rw [hd] at i; cases i
  | dict ep kvs =>
    obtain ⟨-, xs, ho, -⟩ := r
    refine ⟨_, ho, fun i => ?_⟩
    rcases i with ⟨i, -⟩ | ⟨-, _, i⟩ | i
    · exact absurd (show Value.type "dict" = Value.type "tuple" from i) (by decide)
    · cases i
    · cases i
  | inst fs =>
    obtain ⟨-, es, n, ho, -⟩ := r
    refine ⟨_, ho, fun i => ?_⟩
    rcases i with ⟨i, -⟩ | ⟨-, _, i⟩ | i
    · exact absurd (show Value.type "dict" = Value.type "tuple" from i) (by decide)
    · cases i
    · cases i

section
variable {G : Base} {φ φ' φ'' : Phi} {η η' η'' : H} {L : Addr}
theorem HR.alive {h : Heap} (r : HR G φ η h) {p : Addr × Addr} (hp : p ∈ φ) : ∃ ob, h.get? p.2 = some ob ∧ ¬ Im ob := by
  obtain ⟨i, hi⟩ := List.mem_iff_getElem?.mp hp
  exact (r.obj i p.1 p.2 hi).alive
theorem HR.notIm {h : Heap} (r : HR G φ η h) {b : Addr} {o : Obj} (e : h.get? b = some o) (i : Im o) : ∀ p ∈ φ, p.2 ≠ b := by
  intro p hp q
  obtain ⟨ob, ho, hn⟩ := r.alive hp
  rw [q, e] at ho
  cases ho
  exact hn i
theorem Step.refl (φ : Phi) (s : Shared) : Step φ φ s s := ⟨List.prefix_refl _, fun _ _ e _ => e, fun _ h => .inl h, rfl, rfl, rfl⟩
theorem Step.st {s s' : Shared} (x : Step φ φ' s s') (r : HR G φ η s.heap) : St s.heap s'.heap := fun b o e i => x.ev b o e (r.notIm e i)
theorem Step.trans {s s' s'' : Shared} (x : Step φ φ' s s') (y : Step φ' φ'' s' s'') (r : HR G φ η s.heap) (r' : HR G φ' η' s'.heap) : Step φ φ'' s s'' := by
  refine ⟨x.pre.trans y.pre, fun b o e n => ?_, fun p hp => ?_, y.gens.trans x.gens, y.drawn.trans x.drawn, y.os.trans x.os⟩
  · refine y.ev b o (x.ev b o e n) fun p hp q => ?_
    rcases x.fresh p hp with h | h
    · exact n p h q
    · rw [q, e] at h; cases h
  · rcases y.fresh p hp with h | h
    · exact x.fresh p h
    · cases e : s.heap.get? p.2 with
      | none => exact .inr rfl
      | some o =>
        by_cases n : ∀ q ∈ φ, q.2 ≠ p.2
        · rw [x.ev _ _ e n] at h; cases h
        · simp only [ne_eq, Classical.not_forall, Classical.not_not] at n
          obtain ⟨q, hq, he⟩ := n
          obtain ⟨ob, ho, -⟩ := r'.alive (x.pre.subset hq)
          rw [he, h] at ho; cases ho
theorem Step.l {s s' : Shared} (x : Step φ φ' s s') : StepL L φ φ' s s' := ⟨x.pre, fun b o e n _ => x.ev b o e n, x.fresh, x.gens, x.drawn, x.os⟩
theorem StepL.refl (φ : Phi) (s : Shared) : StepL L φ φ s s := (Step.refl φ s).l
-- a step that stores no tracked object and makes none
theorem Step.same {s s' : Shared} (k : ∀ b o, s.heap.get? b = some o → s'.heap.get? b = some o) (g : s'.gens = s.gens) (d : s'.drawn = s.drawn) (o : s'.os = s.os) : Step φ φ s s' :=
  ⟨List.prefix_refl _, fun b o e _ => k b o e, fun _ h => .inl h, g, d, o⟩
end

theorem DR.st {G : Base} {φ φ' : Phi} {h h' : Heap} (p : φ <+: φ') (k : St h h') : ∀ {kvs : List (V × V)} {xs : List (List Int × Addr × Value)}, DR G φ h kvs xs → DR G φ' h' kvs xs
  | [], _, r => r
  | _ :: _, _, ⟨q, y, s, e, a, ⟨o, it, n, ho, hc, hd, hi⟩, v, r⟩ => ⟨q, y, s, e, a, ⟨o, it, n, k _ _ ho (.inl ⟨hc, _, n, hd⟩), hc, hd, hi⟩, v.st p k, DR.st p k r⟩
theorem FieldsR.st {φ φ' : Phi} {h h' : Heap} (p : φ <+: φ') (k : St h h') {fs : List V} {es : List DictEntry} (r : FieldsR φ h fs es) : FieldsR φ' h' fs es :=
  ⟨fun i nm a b => let ⟨u, c, d⟩ := r.get i nm a b; ⟨u, c, d.st p k⟩, r.keys, r.few, r.size⟩

-- an object's relation holds on where its own object stands and what is never turned stands
theorem OR.st {G : Base} {φ φ' : Phi} {h h' : Heap} (p : φ <+: φ') (k : St h h') {o : AO} {a d : Addr} (e : h'.get? d = h.get? d) (r : OR G φ h o a d) : OR G φ' h' o a d := by
  cases o with
  | no => exact r
  | list xs =>
    obtain ⟨q, us, ⟨ob, n, ho, z⟩, v⟩ := r
    exact ⟨q, us, ⟨ob, n, e.trans ho, z⟩, v.st p k⟩
  | dict ep kvs =>
    obtain ⟨q, xs, ho, n, v⟩ := r
    exact ⟨q, xs, e.trans ho, n, v.st p k⟩
  | inst fs =>
    obtain ⟨q, es, n, ho, v⟩ := r
    exact ⟨k _ _ q (.inr (.inr rfl)), es, n, e.trans ho, v.st p k⟩

section
variable {G : Base} {φ φ' : Phi} {η η' : H} {h h' : Heap}
theorem HR.lt (r : HR G φ η h) {p : Addr × Addr} (hp : p ∈ φ) : p.2 < h.objs.size := by
  obtain ⟨ob, ho, -⟩ := r.alive hp
  exact Heap.lt_size ho
theorem HR.new (r : HR G φ η h) {p : Addr × Addr} (hp : p ∈ φ) : G.h₀.get? p.2 = none := (r.above p hp).1
-- nothing tracked is turned, nothing is lost
theorem HR.grow (r : HR G φ η h) (k : ∀ b o, h.get? b = some o → h'.get? b = some o) : HR G φ η h' :=
  ⟨fun b o e => k b o (r.keep b o e), r.len, fun i a d e => by
    obtain ⟨ob, ho, -⟩ := (r.obj i a d e).alive
    exact (r.obj i a d e).st (List.prefix_refl _) (fun b o e _ => k b o e) ((k _ _ ho).trans ho.symm), r.above, r.nd, fun b o e => k b o (r.frz b o e), r.aboveF, r.ror⟩
theorem HR.view (r : HR G φ η h) (e : ∀ i, η'.t.get i = η.t.get i) (n : η'.n = η.n) (q : η'.r = η.r) : HR G φ η' h :=
  ⟨r.keep, r.len.trans n.symm, fun i a d z => by rw [e]; exact r.obj i a d z, r.above, r.nd, r.frz, r.aboveF, q.trans r.ror⟩
-- one object more
theorem HR.alloc (r : HR G φ η h) {o : AO} {a d : Addr} (ha : G.h₀.objs.size ≤ d) (hd : ∀ ob, h.get? d ≠ some ob) (k : ∀ b ob, h.get? b = some ob → h'.get? b = some ob)
    (x : OR G (φ ++ [(a, d)]) h' o a d) : HR G (φ ++ [(a, d)]) ⟨η.t.put o η.n, Nat.succ η.n, η.r⟩ h' := by
  have r' := r.grow k
  refine ⟨r'.keep, ?_, fun i b c e => ?_, fun p hp => ?_, ?_, r'.frz, fun i p e hi ob hf => ?_, r.ror⟩
  · show (φ ++ [(a, d)]).length = η.n + 1
    rw [List.length_append, r.len]; rfl
  · show OR G _ h' ((η.t.put o η.n).get i) b c
    rw [tget_put]
    by_cases q : η.n = i
    · rw [if_pos q]
      subst q
      rw [← r.len, List.getElem?_append_right (Nat.le_refl _), Nat.sub_self] at e
      simp only [List.getElem?_cons_zero, Option.some.injEq, Prod.mk.injEq] at e
      obtain ⟨rfl, rfl⟩ := e
      exact x
    · rw [if_neg q]
      have hi : i < φ.length := by
        have h1 := (List.getElem?_eq_some_iff.mp e).1
        rw [List.length_append] at h1
        have h2 : i ≠ φ.length := by rw [r.len]; exact fun z => q z.symm
        simp at h1; omega
      rw [List.getElem?_append_left hi] at e
      exact (r'.obj i b c e).st (List.prefix_append _ _) (St.refl _) rfl
  · rcases List.mem_append.mp hp with hp | hp
    · exact r.above p hp
    · simp only [List.mem_singleton] at hp
      subst hp
      refine ⟨?_, Nat.lt_of_lt_of_le (modules_low G.lim) ha⟩
      cases q : G.h₀.get? d with
      | none => rfl
      | some o => exact absurd (Heap.lt_size q) (Nat.not_lt.mpr ha)
  · rw [List.map_append, List.nodup_append]
    refine ⟨r.nd, by simp, fun b hb c hc => ?_⟩
    simp only [List.map_cons, List.map_nil, List.mem_singleton] at hc
    subst hc
    rintro rfl
    obtain ⟨p, hp, rfl⟩ := List.mem_map.mp hb
    obtain ⟨ob, ho, -⟩ := r.alive hp
    exact hd ob ho
  · by_cases q : i < φ.length
    · rw [List.getElem?_append_left q] at e
      exact r.aboveF i p e hi ob hf
    · have hp := List.mem_of_getElem? e
      rw [List.getElem?_append_right (by omega)] at e
      have hp := List.mem_of_getElem? e
      simp only [List.mem_singleton] at hp
      subst hp
      exact hd ob (r.frz _ _ hf)
-- one object turned
theorem HR.turn (r : HR G φ η h) {i : Nat} {a d : Addr} {o : AO} (e : φ[i]? = some (a, d)) (k : ∀ b, b ≠ d → h'.get? b = h.get? b) (hro : G.ro ≤ i) (x : OR G φ h' o a d) : HR G φ ⟨η.t.put o i, η.n, η.r⟩ h' := by
  have hm : (a, d) ∈ φ := List.mem_of_getElem? e
  obtain ⟨od, hod, hni⟩ := r.alive hm
  have hod : h.get? d = some od := hod
  have st : St h h' := fun b o e' i' => by
    by_cases q : b = d
    · rw [q, hod] at e'; cases e'; exact absurd i' hni
    · exact (k b q).trans e'
  refine ⟨fun b ob q => ?_, r.len, fun j b c q => ?_, r.above, r.nd, fun b ob q => ?_, r.aboveF, r.ror⟩
  · have : b ≠ d := by rintro rfl; rw [r.new hm] at q; cases q
    exact (k b this).trans (r.keep b ob q)
  · show OR G φ h' ((η.t.put o i).get j) b c
    rw [tget_put]
    by_cases z : i = j
    · subst z
      rw [if_pos rfl]
      rw [e] at q; cases q; exact x
    · rw [if_neg z]
      have hc : c ≠ d := by
        rintro rfl
        apply z
        have h1 : (φ.map (·.2))[i]? = some c := by rw [List.getElem?_map, e]; rfl
        have h2 : (φ.map (·.2))[j]? = some c := by rw [List.getElem?_map, q]; rfl
        exact (List.getElem?_inj (List.getElem?_eq_some_iff.mp h1).1 r.nd).mp (h1.trans h2.symm)
      exact (r.obj j b c q).st (List.prefix_refl _) st (k c hc)
  · have : b ≠ d := by rintro rfl; exact r.aboveF i _ e hro ob q
    exact (k b this).trans (r.frz b ob q)
theorem Step.turn {s s' : Shared} {a d : Addr} (hm : (a, d) ∈ φ) (k : ∀ b, b ≠ d → s'.heap.get? b = s.heap.get? b) (g : s'.gens = s.gens) (dr : s'.drawn = s.drawn) (o : s'.os = s.os) : Step φ φ s s' :=
  ⟨List.prefix_refl _, fun b ob e n => (k b fun q => n _ hm q.symm).trans e, fun _ h => .inl h, g, dr, o⟩
theorem Step.alloc {s s' : Shared} {a d : Addr} (hd : ∀ ob, s.heap.get? d ≠ some ob) (k : ∀ b ob, s.heap.get? b = some ob → s'.heap.get? b = some ob) (g : s'.gens = s.gens) (dr : s'.drawn = s.drawn) (o : s'.os = s.os) : Step φ (φ ++ [(a, d)]) s s' :=
  ⟨List.prefix_append _ _, fun b ob e _ => k b ob e, fun p hp => by
    rcases List.mem_append.mp hp with hp | hp
    · exact .inl hp
    · simp only [List.mem_singleton] at hp
      subst hp
      right
      cases q : s.heap.get? d with
      | none => rfl
      | some ob => exact absurd q (hd ob), g, dr, o⟩
end

-- a frame
structure Fx where
  cn : Str
  cs : Scope
  a : Addr
  ccd : Value
  names : List Str
abbrev Fx.env (f : Fx) (L : Addr) : Env := envX f.cn f.cs L f.a f.ccd []
structure Fx.Ok (f : Fx) : Prop where
  kind : f.cs.kind = .function
  nd : f.names.Nodup
  loc : ∀ nm ∈ f.names, f.cs.names.lookup nm = some .local
  dbg : ∀ nm ∈ f.names, (nm == ("__debug__" : Str)) = false

structure SR (G : Base) (f : Fx) (φ : Phi) (η : H) (L : Addr) (loc : Loc) (s : Shared) : Prop where
  hr : HR G φ η s.heap
  above : G.h₀.objs.size ≤ L
  out : ∀ p ∈ φ, p.2 ≠ L
  outF : ∀ o, ¬ G.fz L o
  fr : ∃ m, s.heap.Ns L m ∧ ∀ i nm, f.names[i]? = some nm → getV loc i ≠ .unb → ∃ u, m nm = some u ∧ VR φ s.heap (getV loc i) u

theorem SR.step {G : Base} {f : Fx} {φ φ' : Phi} {η η' : H} {L : Addr} {loc : Loc} {s s' : Shared} (x : SR G f φ η L loc s) (y : Step φ φ' s s') (r : HR G φ' η' s'.heap) : SR G f φ' η' L loc s' := by
  obtain ⟨m, ⟨o, es, ep, ho, z⟩, hm⟩ := x.fr
  refine ⟨r, x.above, fun p hp q => ?_, x.outF, m, ⟨o, es, ep, y.ev _ _ ho x.out, z⟩, fun i nm a b => ?_⟩
  · rcases y.fresh p hp with h | h
    · exact x.out p h q
    · rw [q, ho] at h; cases h
  · obtain ⟨u, c, d⟩ := hm i nm a b
    exact ⟨u, c, d.st y.pre (y.st x.hr)⟩

structure Room (A : Around) (n : Nat) : Prop where
  depth : A.depth + n < recursionLimit
  units : A.units + 8 * n + 16 < cLine
  handled : A.handled = none
theorem Room.less {A : Around} {n m : Nat} (x : Room A n) (h : m ≤ n) : Room A m := ⟨by have := x.depth; omega, by have := x.units; omega, x.handled⟩

abbrev NoE : Value → Shared → Prop := fun _ _ => False

-- what an expression comes to
def Post (G : Base) (φ : Phi) (s : Shared) (k : V → H → Bool) (u : Value) (s' : Shared) : Prop :=
  ∃ v η' φ', k v η' = true ∧ VR φ' s'.heap v u ∧ Step φ φ' s s' ∧ HR G φ' η' s'.heap
def ES (G : Base) (f : Fx) (n : Nat) (m : XE) (e : Expr) : Prop :=
  ∀ A L φ η loc s k, Room A n → SR G f φ η L loc s → m loc η k = true → wpAny G.M A (eval e (f.env L)) (Post G φ s k) NoE s

theorem Post.mk {G : Base} {φ : Phi} {η : H} {s s' : Shared} {k : V → H → Bool} {v : V} {u : Value} (hr : HR G φ η s.heap) (hk : k v η = true) (hv : VR φ s'.heap v u)
    (kp : ∀ b o, s.heap.get? b = some o → s'.heap.get? b = some o) (g : s'.gens = s.gens := by rfl) (d : s'.drawn = s.drawn := by rfl) (o : s'.os = s.os := by rfl) : Post G φ s k u s' :=
  ⟨v, η, φ, hk, hv, Step.same kp g d o, hr.grow kp⟩

-- one expression, then another
theorem ES.then {G : Base} {f : Fx} {n : Nat} {m : XE} {e : Expr} (x : ES G f n m e) {β : Type} {A : Around} {L : Addr} {φ : Phi} {η : H} {loc : Loc} {s : Shared} {k : V → H → Bool} (hA : Room A n)
    (S : SR G f φ η L loc s) (h : m loc η k = true) {Q : Value → Shared → Prop} {E : Value → Shared → Prop}
    (nx : ∀ u v η' φ' s', k v η' = true → VR φ' s'.heap v u → Step φ φ' s s' → SR G f φ' η' L loc s' → Q u s') : wpAny G.M A (eval e (f.env L)) Q E s :=
  let _ := β
  wpAny_mono (x A L φ η loc s k hA S h) (fun u s' ⟨v, η', φ', a, b, c, d⟩ => nx u v η' φ' s' a b c (S.step c d)) fun _ _ z => z.elim

theorem SR.st {G : Base} {f : Fx} {φ φ' : Phi} {η : H} {L : Addr} {loc : Loc} {s s' : Shared} (S : SR G f φ η L loc s) (y : Step φ φ' s s') : St s.heap s'.heap := y.st S.hr
end Kp
end
-- part KpOps
section
set_option autoImplicit false
namespace Kp
open PySem PySem.W PyProof.Rows PySem.Calls

theorem isub_eq (m n : Nat) : isub m n = (m : Int) - (n : Int) := by
  unfold isub
  have e1 : Nat.sub n m = n - m := rfl
  have e2 : Nat.sub m n = m - n := rfl
  rw [e1, e2]
  cases q : n - m with
  | zero => show Int.ofNat (m - n) = _; have : n ≤ m := by omega
            show ((m - n : Nat) : Int) = _; omega
  | succ k => show Int.negSucc k = _; omega
theorem iadd_eq (a b : Int) : iadd a b = a + b := by
  cases a <;> cases b
  · rfl
  · show isub _ _ = _; rw [isub_eq]; simp; omega
  · show isub _ _ = _; rw [isub_eq]; simp; omega
  · show Int.negSucc _ = _; simp only [Int.negSucc_eq, Nat.add_eq, Nat.succ_eq_add_one]; omega
theorem ineg_eq (a : Int) : ineg a = -a := by
  cases a with
  | ofNat m => cases m <;> rfl
  | negSucc m => rfl
theorem imul_eq (a b : Int) : imul a b = a * b := by cases a <;> cases b <;> rfl
theorem ifdiv_eq (a b : Int) : ifdiv a b = Int.fdiv a b := by
  cases a with
  | ofNat m => cases b with
    | ofNat n => show Int.ofNat (m / n) = _; cases m <;> simp [Int.fdiv]
    | negSucc n => rfl
  | negSucc m => rfl
theorem ifmod_eq (a b : Int) : ifmod a b = Int.fmod a b := by
  cases a with
  | ofNat m => cases b with
    | ofNat n => show Int.ofNat (m % n) = _; cases m <;> simp [Int.fmod]
    | negSucc n => rfl
  | negSucc m => rfl
theorem bnot_eq (a : Int) : bnot a = Builtin.bitNot a := by
  unfold Builtin.bitNot
  cases a with
  | ofNat m => show Int.negSucc m = _; rw [Int.negSucc_eq]; (try simp); (try omega)
  | negSucc m => show Int.ofNat m = _; rw [Int.negSucc_eq]; (try simp); (try omega)
theorem bn_of (m : Nat) : Builtin.bitNot (Int.negSucc m) = Int.ofNat m := by rw [← bnot_eq]; rfl
theorem bn_nat (m : Nat) : Builtin.bitNot (Int.ofNat m) = Int.negSucc m := by rw [← bnot_eq]; rfl
theorem ge_of (m : Nat) : decide (0 ≤ Int.ofNat m) = true := by simp
theorem ge_neg (m : Nat) : decide (0 ≤ Int.negSucc m) = false := by apply decide_eq_false; rw [Int.negSucc_eq]; omega
theorem iand_eq (a b : Int) : iand a b = Builtin.bitAnd a b := by
  unfold Builtin.bitAnd
  cases a <;> cases b
  · rename_i m n
    rw [ge_of, ge_of]; rfl
  · rename_i m n
    rw [ge_of, ge_neg, bn_of]
    show Int.ofNat (m - (m &&& n)) = Int.ofNat m - ((m &&& n : Nat) : Int)
    have := @Nat.and_le_left m n
    show ((m - (m &&& n) : Nat) : Int) = (m : Int) - _
    omega
  · rename_i m n
    rw [ge_of, ge_neg, bn_of]
    show Int.ofNat (n - (n &&& m)) = Int.ofNat n - ((n &&& m : Nat) : Int)
    have := @Nat.and_le_left n m
    show ((n - (n &&& m) : Nat) : Int) = (n : Int) - _
    omega
  · rename_i m n
    rw [ge_neg, ge_neg, bn_of, bn_of]
    show Int.negSucc (m ||| n) = Builtin.bitNot ((m ||| n : Nat) : Int)
    exact (bn_nat _).symm
theorem ior_eq (a b : Int) : ior a b = Builtin.bitOr a b := by
  have key : ∀ a b, bnot (iand (bnot a) (bnot b)) = Builtin.bitOr a b := fun a b => by unfold Builtin.bitOr; rw [bnot_eq, iand_eq, bnot_eq, bnot_eq]
  cases a with
  | ofNat m => cases b with
    | ofNat n => rw [← key]; rfl
    | negSucc n => exact key (Int.ofNat m) (Int.negSucc n)
  | negSucc m => exact key (Int.negSucc m) b
theorem ieq_eq (a b : Int) : ieq a b = (a == b) := by
  cases a with
  | ofNat m => cases b with
    | ofNat n => show Nat.beq m n = _; rw [BT.beq_eq]; by_cases h : m = n <;> (simp [h]; try omega)
    | negSucc n => rfl
  | negSucc m => cases b with
    | ofNat n => rfl
    | negSucc n => show Nat.beq m n = _; rw [BT.beq_eq]; by_cases h : m = n <;> (simp [h]; try omega)
theorem ilt_eq (a b : Int) : ilt a b = decide (a < b) := by
  have q : ∀ m n : Nat, Nat.ble (Nat.succ m) n = decide (m < n) := fun m n => by
    by_cases h : m < n
    · rw [decide_eq_true h]; exact Nat.ble_eq_true_of_le h
    · rw [decide_eq_false h]
      cases z : Nat.ble (Nat.succ m) n with
      | false => rfl
      | true => exact absurd (Nat.le_of_ble_eq_true z) h
  cases a with
  | ofNat m => cases b with
    | ofNat n => show Nat.ble (Nat.succ m) n = _; rw [q]; by_cases h : m < n <;> simp [h]
    | negSucc n => show false = _; symm; apply decide_eq_false; simp [Int.negSucc_eq]; omega
  | negSucc m => cases b with
    | ofNat n => show true = _; symm; apply decide_eq_true; simp [Int.negSucc_eq]; omega
    | negSucc n => show Nat.ble (Nat.succ n) m = _; rw [q]; by_cases h : n < m
                   · rw [decide_eq_true h]; symm; apply decide_eq_true; simp [Int.negSucc_eq]; omega
                   · rw [decide_eq_false h]; symm; apply decide_eq_false; simp [Int.negSucc_eq]; omega
theorem bnt_eq (b : Bool) : bnt b = !b := by cases b <;> rfl

def OpOk (G : Base) (o : Op) (op : Operator) : Prop := ∀ (A : Around) (s : Shared) (a b : Int) (t u : Tok) (k : Int → Bool) (Q : Value → Shared → Prop), o a b k = true →
  (∀ c tk tk', k c = true → Q (.int c tk) { s with toks := tk' }) → wpAny G.M A (binaryOp op (.int a t) (.int b u)) Q NoE s
def IopOk (G : Base) (o : Op) (op : Operator) : Prop := ∀ (A : Around) (s : Shared) (a b : Int) (t u : Tok) (k : Int → Bool) (Q : Value → Shared → Prop), o a b k = true →
  (∀ c tk tk', k c = true → Q (.int c tk) { s with toks := tk' }) → wpAny G.M A (inplaceOp op (.int a t) (.int b u)) Q NoE s

theorem small_of {a : Int} {t : Bool} (h : small a t false = true) : t = true ∧ a < 2 ^ 61 ∧ -(2 ^ 61) < a := by
  unfold small at h
  rw [ilt_eq, ilt_eq] at h
  by_cases h1 : a < Int.ofNat 1152921504606846976
  · rw [decide_eq_true h1] at h
    by_cases h2 : Int.negSucc 1152921504606846976 < a
    · rw [decide_eq_true h2] at h
      refine ⟨h, ?_, ?_⟩
      · have : (Int.ofNat 1152921504606846976 : Int) = 1152921504606846976 := rfl
        rw [this] at h1; omega
      · have : (Int.negSucc 1152921504606846976 : Int) = -1152921504606846977 := rfl
        rw [this] at h2; omega
    · rw [decide_eq_false h2] at h; cases h
  · rw [decide_eq_false h1] at h; cases h

section
variable (G : Base)
theorem op_add : OpOk G oadd .Add := fun A s a b t u k Q h n => PySem.P.add_int (by unfold oadd at h; rw [iadd_eq] at h; exact n _ _ _ h)
theorem op_sub : OpOk G osub .Sub := fun A s a b t u k Q h n => PySem.P.sub_int (by unfold osub at h; rw [iadd_eq, ineg_eq] at h; exact n _ _ _ (by rw [Int.sub_eq_add_neg]; exact h))
theorem op_mul : OpOk G omul .Mult := fun A s a b t u k Q h n => by
  unfold omul at h
  obtain ⟨h, h1, h2⟩ := small_of h
  rw [imul_eq] at h
  exact PySem.P.mul_int (n _ _ _ h) (IntMulOk.of_left (intBits_le_64 (by omega) (by omega)))
theorem pos_of {a b : Int} {f : Int → Bool} (h : pos2 a b f = true) : 0 < b ∧ b ≤ 1000000 ∧ f a = true := by
  unfold pos2 at h
  cases b with
  | negSucc n => cases h
  | ofNat n => cases n with
    | zero => cases h
    | succ n =>
      have h : bcase (Nat.ble (n + 1) 1000000) (f a) false = true := h
      cases q : Nat.ble (n + 1) 1000000 with
      | false => rw [q] at h; cases h
      | true =>
        rw [q] at h
        have := Nat.le_of_ble_eq_true q
        exact ⟨by show (0 : Int) < ((n + 1 : Nat) : Int); omega, by show ((n + 1 : Nat) : Int) ≤ _; omega, h⟩
theorem op_div : OpOk G odiv .FloorDiv := fun A s a b t u k Q h n => by
  unfold odiv at h
  obtain ⟨h1, h2, h⟩ := pos_of h
  rw [ifdiv_eq] at h
  exact floordiv_int (by omega) (n _ _ _ h) (Or.inl (PyProof.noPylong_small (by omega)))
theorem op_mod : OpOk G omod .Mod := fun A s a b t u k Q h n => by
  unfold omod at h
  obtain ⟨h1, h2, h⟩ := pos_of h
  rw [ifmod_eq] at h
  exact PyProof.Rows.mod_int' (by omega) (n _ _ _ h)
theorem nat2_of {a b : Int} {f : Nat → Nat → Bool} (h : nat2 a b f = true) : ∃ m n : Nat, a = .ofNat m ∧ b = .ofNat n ∧ f m n = true := by
  cases a with
  | negSucc n => cases h
  | ofNat m => cases b with
    | negSucc n => cases h
    | ofNat n => exact ⟨m, n, rfl, rfl, h⟩
theorem bc_of {c x : Bool} (h : bcase c x false = true) : c = true ∧ x = true := by
  cases c with
  | true => exact ⟨rfl, h⟩
  | false => cases h
theorem op_shl : OpOk G oshl .LShift := fun A s a b t u k Q h n => by
  unfold oshl at h
  obtain ⟨x, y, rfl, rfl, h⟩ := nat2_of h
  obtain ⟨h1, h⟩ := bc_of h
  obtain ⟨h2, h⟩ := bc_of h
  have h1 : y ≤ 60 := Nat.le_of_ble_eq_true h1
  have h2 : x ≤ 1152921504606846976 := Nat.le_of_ble_eq_true h2
  have e : Int.ofNat (Nat.shiftLeft x y) = Int.ofNat x * 2 ^ (Int.ofNat y).toNat := by
    show ((x <<< y : Nat) : Int) = _
    rw [Nat.shiftLeft_eq]
    show ((x * 2 ^ y : Nat) : Int) = (x : Int) * 2 ^ y
    push_cast; rfl
  rw [e] at h
  refine PyProof.Rows.lshift_int_small (by simp) (by show (y : Int) ≤ 1000000; omega) (by show x < 18446744073709551616; omega) (n _ _ _ h)
theorem op_shr : OpOk G oshr .RShift := fun A s a b t u k Q h n => by
  unfold oshr at h
  obtain ⟨x, y, rfl, rfl, h'⟩ := nat2_of h
  clear h
  have h := h'
  clear h'
  have e : Int.ofNat (Nat.shiftRight x y) = (Int.ofNat x).fdiv (2 ^ (Int.ofNat y).toNat) := by
    show ((x >>> y : Nat) : Int) = _
    rw [Nat.shiftRight_eq_div_pow, Int.fdiv_eq_ediv_of_nonneg]
    · show ((x / 2 ^ y : Nat) : Int) = (x : Int) / 2 ^ y
      push_cast; rfl
    · exact Int.pow_nonneg (by decide)
  rw [e] at h
  exact PyProof.Rows.rshift_int (by simp) (n _ _ _ h)
theorem op_and : OpOk G oand .BitAnd := fun A s a b t u k Q h n => PyProof.Rows.and_int (by unfold oand at h; rw [iand_eq] at h; exact n _ _ _ h)
theorem op_or : OpOk G oor .BitOr := fun A s a b t u k Q h n => PyProof.Rows.or_int (by unfold oor at h; rw [ior_eq] at h; exact n _ _ _ h)
theorem op_xor : OpOk G oxor .BitXor := fun A s a b t u k Q h n => PyProof.Rows.xor_int (by
  unfold oxor at h; rw [iadd_eq, ineg_eq, ior_eq, iand_eq] at h
  exact n _ _ _ (by unfold Builtin.bitXor; rw [Int.sub_eq_add_neg]; exact h))
theorem iop_add : IopOk G oadd .Add := fun A s a b t u k Q h n => PySem.P.iadd_int (by unfold oadd at h; rw [iadd_eq] at h; exact n _ _ _ h)
theorem iop_or : IopOk G oor .BitOr := fun A s a b t u k Q h n => PyProof.Rows.ior_int (by unfold oor at h; rw [ior_eq] at h; exact n _ _ _ h)
theorem iop_shr : IopOk G oshr .RShift := fun A s a b t u k Q h n => by
  unfold oshr at h
  obtain ⟨x, y, rfl, rfl, h'⟩ := nat2_of h
  clear h
  have h := h'
  clear h'
  have e : Int.ofNat (Nat.shiftRight x y) = (Int.ofNat x).fdiv (2 ^ (Int.ofNat y).toNat) := by
    show ((x >>> y : Nat) : Int) = _
    rw [Nat.shiftRight_eq_div_pow, Int.fdiv_eq_ediv_of_nonneg]
    · show ((x / 2 ^ y : Nat) : Int) = (x : Int) / 2 ^ y
      push_cast; rfl
    · exact Int.pow_nonneg (by decide)
  rw [e] at h
  exact PyProof.Rows.irshift_int (by simp) (n _ _ _ h)

def CmOk (c : Cm) (op : CmpOp) : Prop := ∀ (A : Around) (s : Shared) (a b : Int) (t u : Tok) (Q : Value → Shared → Prop), Q (.bool (c a b)) s → wpAny G.M A (compareOp op (.int a t) (.int b u)) Q NoE s
theorem cm_eq : CmOk G ceq .Eq := fun A s a b t u Q h => PySem.P.eq_int (by rw [← ieq_eq]; exact h)
theorem cm_ne : CmOk G cne .NotEq := fun A s a b t u Q h => PySem.P.ne_int (by unfold cne at h; rw [bnt_eq, ieq_eq] at h; exact h)
theorem cm_lt : CmOk G clt .Lt := fun A s a b t u Q h => PySem.P.lt_int (by rw [← ilt_eq]; exact h)
theorem cm_le : CmOk G cle .LtE := fun A s a b t u Q h => PySem.P.le_int (by
  unfold cle at h; rw [bnt_eq, ilt_eq] at h
  have : decide (a ≤ b) = !decide (b < a) := by by_cases q : b < a <;> simp [q] <;> omega
  rw [this]; exact h)
theorem cm_gt : CmOk G cgt .Gt := fun A s a b t u Q h => PySem.P.gt_int (by unfold cgt at h; rw [ilt_eq] at h; exact h)
theorem cm_ge : CmOk G cge .GtE := fun A s a b t u Q h => PySem.P.ge_int (by
  unfold cge at h; rw [bnt_eq, ilt_eq] at h
  have : decide (a ≥ b) = !decide (a < b) := by by_cases q : a < b <;> simp [q] <;> omega
  rw [this]; exact h)
end
end Kp
end
-- part KpExpr
section
set_option autoImplicit false
namespace Kp
open PySem PySem.W PyProof.Rows PySem.Calls

-- what a combinator's answer says
theorem asInt_of {v : V} {k : Int → Bool} (h : asInt v k = true) : ∃ i, v = .int i ∧ k i = true := by
  cases v <;> first | exact ⟨_, rfl, h⟩ | cases h
theorem asNat_of {v : V} {k : Nat → Bool} (h : asNat v k = true) : ∃ n : Nat, v = .int (.ofNat n) ∧ k n = true := by
  obtain ⟨i, e, h1⟩ := asInt_of h
  subst e
  cases i <;> first | exact ⟨_, rfl, h1⟩ | cases h1
theorem asRef_of {v : V} {k : Nat → Bool} (h : asRef v k = true) : ∃ n, v = .ref n ∧ k n = true := by
  cases v <;> first | exact ⟨_, rfl, h⟩ | cases h
theorem asTup_of {v : V} {k : List V → Bool} (h : asTup v k = true) : ∃ n, v = .tup n ∧ k n = true := by
  cases v <;> first | exact ⟨_, rfl, h⟩ | cases h
theorem known_of {v : V} {k : V → Bool} (h : known v k = true) : v ≠ .unb ∧ k v = true := by
  cases v <;> first | exact ⟨(fun e => by cases e), h⟩ | cases h
theorem truthy_of {v : V} {k : Bool → Bool} (h : truthy v k = true) : ∃ b, k b = true ∧ (v = .bool b ∨ ∃ i, v = .int i ∧ b = (i != 0)) := by
  cases v with
  | bool b => exact ⟨b, h, .inl rfl⟩
  | int i =>
    refine ⟨_, h, .inr ⟨i, rfl, ?_⟩⟩
    rw [bnt_eq, ieq_eq]; rfl
  | _ => cases h
theorem truthy_at {v : V} {b : Bool} (x : v = .bool b ∨ ∃ i, v = .int i ∧ b = (i != 0)) (k : Bool → Bool) : truthy v k = k b := by
  rcases x with rfl | ⟨i, rfl, rfl⟩
  · rfl
  · show k (bnt (ieq i (.ofNat 0))) = _
    rw [bnt_eq, ieq_eq]; rfl
theorem asList_of {v : V} {η : H} {k : Nat → List V → Bool} (h : asList v η k = true) : ∃ n xs, v = .ref n ∧ η.t.get n = .list xs ∧ k n xs = true := by
  unfold asList at h
  obtain ⟨n, e0, h1⟩ := asRef_of h
  have e : getT η n = η.t.get n := rfl
  rw [e] at h1
  cases q : η.t.get n <;> rw [q] at h1 <;> first | cases h1 | exact ⟨n, _, e0, q, h1⟩
theorem obj_of {o : AO} {fl : List V → Bool} {fd : Nat → List (V × V) → Bool} {fi : List V → Bool} (h : objCase o fl fd fi = true) :
    (∃ xs, o = .list xs ∧ fl xs = true) ∨ (∃ ep kvs, o = .dict ep kvs ∧ fd ep kvs = true) ∨ ∃ fs, o = .inst fs ∧ fi fs = true := by
  cases o with
  | no => cases h
  | list xs => exact .inl ⟨xs, rfl, h⟩
  | dict ep kvs => exact .inr (.inl ⟨ep, kvs, rfl, h⟩)
  | inst fs => exact .inr (.inr ⟨fs, rfl, h⟩)

section
variable {G : Base} {f : Fx} {n : Nat}

theorem Post.from {φ φ' : Phi} {η η' : H} {s s' s'' : Shared} {k : V → H → Bool} {u : Value} (st : Step φ φ' s s') (r : HR G φ η s.heap) (r' : HR G φ' η' s'.heap) (p : Post G φ' s' k u s'') : Post G φ s k u s'' := by
  obtain ⟨v, ζ, ψ, a, b, c, d⟩ := p
  exact ⟨v, ζ, ψ, a, b, st.trans c r r', d⟩

-- a step that turns the count alone
theorem Post.tick {φ : Phi} {η : H} {s : Shared} {k : V → H → Bool} {v : V} {u : Value} {tk : Nat} (hr : HR G φ η s.heap) (hk : k v η = true) (hv : VR φ s.heap v u) : Post G φ s k u { s with toks := tk } :=
  ⟨v, η, φ, hk, hv, Step.same (fun _ _ e => e) rfl rfl rfl, hr⟩

def PostB (G : Base) (φ : Phi) (s : Shared) (k : Bool → H → Bool) (b : Bool) (s' : Shared) : Prop := ∃ η' φ', k b η' = true ∧ Step φ φ' s s' ∧ HR G φ' η' s'.heap
def TS (G : Base) (f : Fx) (n : Nat) (m : XE) (e : Expr) : Prop :=
  ∀ A L φ η loc s k, Room A n → SR G f φ η L loc s → m loc η (fun v h => truthy v fun b => k b h) = true → wpAny G.M A (isTrue e (f.env L) (eval e (f.env L))) (PostB G φ s k) NoE s
theorem PostB.from {φ φ' : Phi} {η η' : H} {s s' s'' : Shared} {k : Bool → H → Bool} {u : Bool} (st : Step φ φ' s s') (r : HR G φ η s.heap) (r' : HR G φ' η' s'.heap) (p : PostB G φ' s' k u s'') : PostB G φ s k u s'' := by
  obtain ⟨ζ, ψ, a, c, d⟩ := p
  exact ⟨ζ, ψ, a, st.trans c r r', d⟩
theorem PostB.tick {φ : Phi} {η : H} {s : Shared} {k : Bool → H → Bool} {b : Bool} {tk : Nat} (hr : HR G φ η s.heap) (hk : k b η = true) : PostB G φ s k b { s with toks := tk } :=
  ⟨η, φ, hk, Step.same (fun _ _ e => e) rfl rfl rfl, hr⟩

theorem wp_truthy {φ : Phi} {h : Heap} {v : V} {u : Value} {b : Bool} {A : Around} {s : Shared} {Q : Bool → Shared → Prop} {E : Value → Shared → Prop} (hv : VR φ h v u) (x : v = .bool b ∨ ∃ i, v = .int i ∧ b = (i != 0)) (q : Q b s) : wpAny G.M A (PySem.truthy u) Q E s := by
  rcases x with rfl | ⟨i, rfl, rfl⟩
  · rw [show u = .bool b from hv]; exact wpAny_truthy_bool q
  · obtain ⟨t, rfl⟩ := VR.int hv
    exact PySem.P.truthy_int q

theorem TS.of {m : XE} {e : Expr} (x : ES G f n m e) (hi : ∀ env w, isTrue e env w = (do let v ← w; standAt e.pos; holding [v] (PySem.truthy v)) := by intro _ _; with_unfolding_all rfl) : TS G f n m e := by
  intro A L φ η loc s k hA S h
  rw [hi]
  refine wpAny_bind (x.then (β := Unit) hA S h fun u v η1 φ1 s1 hk hv st S1 => ?_)
  obtain ⟨b, hb, y⟩ := truthy_of hk
  exact wpAny_bind (wpAny_standAt (wpAny_holding (wp_truthy hv y ⟨η1, φ1, hb, st, S1.hr⟩)))

theorem wp_rel {M : Model} {A : Around} {E : Value → Shared → Prop} {s : Shared} {vs kp : List Value} {Q : Unit → Shared → Prop} (h : Q () s) : wpAny M A (release vs kp) Q E s := fun Γ p _ => by rw [Sem.wp_release]; exact h

-- literals
theorem es_int {i j : Int} {k : Nat} {pos : Pos} (h : i = j) : ES G f n (xlit (.int i)) (.Constant (.int j) k pos) := by
  subst h
  intro A L φ η loc s k hA S h
  exact wpAny_Constant_int (Post.tick S.hr h ⟨_, rfl⟩)
theorem es_none {k : Nat} {pos : Pos} : ES G f n (xlit .none) (.Constant .none k pos) := by
  intro A L φ η loc s k hA S h
  exact wpAny_Constant_none (Post.tick (tk := s.toks) S.hr h rfl)
theorem es_bool {b : Bool} {k : Nat} {pos : Pos} : ES G f n (xlit (.bool b)) (.Constant (.bool b) k pos) := by
  intro A L φ η loc s k hA S h
  exact wpAny_Constant_bool (Post.tick (tk := s.toks) S.hr h rfl)

-- names
theorem es_loc {i : Nat} {nm : Str} {pos : Pos} (ok : f.Ok) (hn : f.names[i]? = some nm) : ES G f n (xloc i) (.Name nm pos) := by
  intro A L φ η loc s k hA S h
  obtain ⟨hu, hk⟩ := known_of h
  obtain ⟨m, ns, hm⟩ := S.fr
  obtain ⟨u, e, hv⟩ := hm i nm hn hu
  have mem := List.mem_of_getElem? hn
  exact wpAny_Name (wpAny_loadName_local ok.kind (ok.loc _ mem) ns e (Post.tick (tk := s.toks) S.hr hk hv)) (ok.dbg _ mem)
theorem es_glob {x : Str} {pos : Pos} {v : V} {u : Value} (ok : f.Ok) (hx : f.cs.names.lookup x = some .globalImplicit) (hm : G.mg x = some u) (hv : ∀ φ h, (∀ b o, G.h₀.get? b = some o → h.get? b = some o) → VR φ h v u) (hd : (x == ("__debug__" : Str)) = false) :
    ES G f n (xlit v) (.Name x pos) := by
  intro A L φ η loc s k hA S h
  exact Name_function_global (env := f.env L) ok.kind hx (loadGlobal_global (env := f.env L) (G.g.keeps S.hr.keep) hm (Post.tick (tk := s.toks) S.hr h (hv _ _ S.hr.keep))) hd

-- ints
theorem es_bin {o : Op} {op : Operator} {m₁ m₂ : XE} {e₁ e₂ : Expr} {pos : Pos} (ho : OpOk G o op) (h₁ : ES G f n m₁ e₁) (h₂ : ES G f n m₂ e₂) : ES G f n (xbin o m₁ m₂) (.BinOp e₁ op e₂ pos) := by
  intro A L φ η loc s k hA S h
  refine wpAny_BinOp (h₁.then (β := Unit) hA S h fun u v η1 φ1 s1 hk hv st S1 => ?_)
  refine h₂.then (β := Unit) hA S1 hk fun u2 v2 η2 φ2 s2 hk2 hv2 st2 S2 => ?_
  obtain ⟨i, rfl, hk3⟩ := asInt_of hk2
  obtain ⟨j, rfl, hk4⟩ := asInt_of hk3
  obtain ⟨t, rfl⟩ := VR.int hv
  obtain ⟨t2, rfl⟩ := VR.int hv2
  refine ho _ _ _ _ _ _ _ _ hk4 fun c tk tk' hc => ?_
  exact Post.from (st.trans st2 S.hr S1.hr) S.hr S2.hr (Post.tick S2.hr hc ⟨_, rfl⟩)
theorem es_neg {m : XE} {e : Expr} {pos : Pos} (h₁ : ES G f n m e) : ES G f n (xneg m) (.UnaryOp .USub e pos) := by
  intro A L φ η loc s k hA S h
  refine wpAny_UnaryOp (h₁.then (β := Unit) hA S h fun u v η1 φ1 s1 hk hv st S1 => ?_)
  obtain ⟨i, rfl, hk'⟩ := asInt_of hk
  obtain ⟨t, rfl⟩ := VR.int hv
  rw [ineg_eq] at hk'
  exact PySem.P.neg_int (Post.from st S.hr S1.hr (Post.tick S1.hr hk' ⟨_, rfl⟩))
theorem es_inv {m : XE} {e : Expr} {pos : Pos} (h₁ : ES G f n m e) : ES G f n (xinv m) (.UnaryOp .Invert e pos) := by
  intro A L φ η loc s k hA S h
  refine wpAny_UnaryOp (h₁.then (β := Unit) hA S h fun u v η1 φ1 s1 hk hv st S1 => ?_)
  obtain ⟨i, rfl, hk'⟩ := asInt_of hk
  obtain ⟨t, rfl⟩ := VR.int hv
  rw [bnot_eq] at hk'
  exact PyProof.Rows.invert_int (Post.from st S.hr S1.hr (Post.tick S1.hr hk' ⟨_, rfl⟩))
theorem es_not {m : XE} {e : Expr} {pos : Pos} (h₁ : ES G f n m e) : ES G f n (xnot m) (.UnaryOp .Not e pos) := by
  intro A L φ η loc s k hA S h
  refine wpAny_UnaryOp (h₁.then (β := Unit) hA S h fun u v η1 φ1 s1 hk hv st S1 => ?_)
  obtain ⟨b, hb, y⟩ := truthy_of hk
  rw [bnt_eq] at hb
  exact PyProof.Rows.not_of (wp_truthy hv y (Post.from st S.hr S1.hr (Post.tick (tk := s1.toks) S1.hr hb rfl)))
theorem ts_not {m : XE} {e : Expr} {pos : Pos} (h₁ : TS G f n m e) : TS G f n (xnot m) (.UnaryOp .Not e pos) := by
  intro A L φ η loc s k hA S h
  show wpAny _ _ (isTrue e (f.env L) (eval e (f.env L)) >>= fun b => pure !b) _ _ _
  refine wpAny_bind (wpAny_mono (h₁ A L φ η loc s (fun b h => k (bnt b) h) hA S h) (fun b s' x => wpAny_pure ?_) fun _ _ z => z)
  obtain ⟨ζ, ψ, a, c, d⟩ := x
  have a' : k (bnt b) ζ = true := a
  rw [bnt_eq] at a'
  exact ⟨ζ, ψ, a', c, d⟩

-- comparisons of ints
theorem es_cmp {c : Cm} {op : CmpOp} {m₁ m₂ : XE} {e₁ e₂ : Expr} {pos : Pos} (ho : CmOk G c op) (h₁ : ES G f n m₁ e₁) (h₂ : ES G f n m₂ e₂) (hm : behindInMarks op e₂ = false := by with_unfolding_all rfl) : ES G f n (xcmp c m₁ m₂) (.Compare e₁ [op] [e₂] pos) := by
  intro A L φ η loc s k hA S h
  refine wpAny_Compare1 (hm := hm) (h₁.then (β := Unit) hA S h fun u v η1 φ1 s1 hk hv st S1 => ?_)
  refine h₂.then (β := Unit) hA S1 hk fun u2 v2 η2 φ2 s2 hk2 hv2 st2 S2 => ?_
  obtain ⟨i, rfl, hk3⟩ := asInt_of hk2
  obtain ⟨j, rfl, hk4⟩ := asInt_of hk3
  obtain ⟨t, rfl⟩ := VR.int hv
  obtain ⟨t2, rfl⟩ := VR.int hv2
  exact ho _ _ _ _ _ _ _ (Post.from (st.trans st2 S.hr S1.hr) S.hr S2.hr (Post.tick (tk := s2.toks) S2.hr hk4 rfl))
theorem ts_cmp {c : Cm} {op : CmpOp} {m₁ m₂ : XE} {e₁ e₂ : Expr} {pos : Pos} (ho : CmOk G c op) (h₁ : ES G f n m₁ e₁) (h₂ : ES G f n m₂ e₂) (hm : behindInMarks op e₂ = false := by with_unfolding_all rfl) : TS G f n (xcmp c m₁ m₂) (.Compare e₁ [op] [e₂] pos) := by
  intro A L φ η loc s k hA S h
  refine wpAny_isTrue_Compare1 (hm := hm) (h₁.then (β := Unit) hA S h fun u v η1 φ1 s1 hk hv st S1 => ?_)
  refine h₂.then (β := Unit) hA S1 hk fun u2 v2 η2 φ2 s2 hk2 hv2 st2 S2 => ?_
  obtain ⟨i, rfl, hk3⟩ := asInt_of hk2
  obtain ⟨j, rfl, hk4⟩ := asInt_of hk3
  obtain ⟨t, rfl⟩ := VR.int hv
  obtain ⟨t2, rfl⟩ := VR.int hv2
  refine ho _ _ _ _ _ _ _ (wpAny_truthy_bool ?_)
  exact ⟨η2, φ2, hk4, st.trans st2 S.hr S1.hr, S2.hr⟩
theorem es_cmp2 {c d : Cm} {o₁ o₂ : CmpOp} {m₁ m₂ m₃ : XE} {e₁ e₂ e₃ : Expr} {pos : Pos} (ho : CmOk G c o₁) (ho2 : CmOk G d o₂) (h₁ : ES G f n m₁ e₁) (h₂ : ES G f n m₂ e₂) (h₃ : ES G f n m₃ e₃)
    (hx : ∀ env, eval (.Compare e₁ [o₁, o₂] [e₂, e₃] pos) env = (do
      let a ← eval e₁ env; let rv ← holding [a] (eval e₂ env); standAt pos; let c ← holding [a, rv] (compareOp o₁ a rv); release [a, rv] [c]
      if ← holding [c, rv] (PySem.truthy c) then (do let sv ← holding [rv] (eval e₃ env); standAt pos; operate [rv, sv] (compareOp o₂ rv sv)) else pure c) := by intro _; with_unfolding_all rfl) :
    ES G f n (xcmp2 c d m₁ m₂ m₃) (.Compare e₁ [o₁, o₂] [e₂, e₃] pos) := by
  intro A L φ η loc s k hA S h
  rw [hx]
  refine wpAny_bind (h₁.then (β := Unit) hA S h fun u v η1 φ1 s1 hk hv st S1 => wpAny_bind (wpAny_holding ?_))
  refine h₂.then (β := Unit) hA S1 hk fun u2 v2 η2 φ2 s2 hk2 hv2 st2 S2 => wpAny_bind (wpAny_standAt (wpAny_bind (wpAny_holding ?_)))
  obtain ⟨i, rfl, hk3⟩ := asInt_of hk2
  obtain ⟨j, rfl, hk4⟩ := asInt_of hk3
  obtain ⟨t, rfl⟩ := VR.int hv
  obtain ⟨t2, rfl⟩ := VR.int hv2
  refine ho _ _ _ _ _ _ _ (wpAny_bind (wp_rel (wpAny_bind (wpAny_holding (wpAny_truthy_bool ?_)))))
  have st3 := st.trans st2 S.hr S1.hr
  cases hc : c i j with
  | false =>
    rw [hc] at hk4
    exact wpAny_pure (Post.from st3 S.hr S2.hr (Post.tick (tk := s2.toks) S2.hr hk4 rfl))
  | true =>
    rw [hc] at hk4
    refine wpAny_bind (wpAny_holding (h₃.then (β := Unit) hA S2 hk4 fun u3 v3 η3 φ3 s3 hk5 hv3 st4 S3 => wpAny_bind (wpAny_standAt ?_)))
    obtain ⟨r, rfl, hk6⟩ := asInt_of hk5
    obtain ⟨t3, rfl⟩ := VR.int hv3
    refine wpAny_operating (ho2 _ _ _ _ _ _ _ ?_)
    exact Post.from (st3.trans st4 S.hr S2.hr) S.hr S3.hr (Post.tick (tk := s3.toks) S3.hr hk6 rfl)
theorem ts_cmp2 {c d : Cm} {o₁ o₂ : CmpOp} {m₁ m₂ m₃ : XE} {e₁ e₂ e₃ : Expr} {pos : Pos} (ho : CmOk G c o₁) (ho2 : CmOk G d o₂) (h₁ : ES G f n m₁ e₁) (h₂ : ES G f n m₂ e₂) (h₃ : ES G f n m₃ e₃)
    (hx : ∀ env w, isTrue (.Compare e₁ [o₁, o₂] [e₂, e₃] pos) env w = (do
      let a ← eval e₁ env; let rv ← holding [a] (eval e₂ env); standAt pos; let c ← holding [a, rv] (compareOp o₁ a rv); release [a, rv] [c]
      if ← holding [c, rv] (PySem.truthy c) then (do let sv ← holding [rv] (eval e₃ env); standAt pos; let c ← operate [rv, sv] (compareOp o₂ rv sv); holding [c] (PySem.truthy c)) else pure false) := by intro _ _; with_unfolding_all rfl) :
    TS G f n (xcmp2 c d m₁ m₂ m₃) (.Compare e₁ [o₁, o₂] [e₂, e₃] pos) := by
  intro A L φ η loc s k hA S h
  rw [hx]
  refine wpAny_bind (h₁.then (β := Unit) hA S h fun u v η1 φ1 s1 hk hv st S1 => wpAny_bind (wpAny_holding ?_))
  refine h₂.then (β := Unit) hA S1 hk fun u2 v2 η2 φ2 s2 hk2 hv2 st2 S2 => wpAny_bind (wpAny_standAt (wpAny_bind (wpAny_holding ?_)))
  obtain ⟨i, rfl, hk3⟩ := asInt_of hk2
  obtain ⟨j, rfl, hk4⟩ := asInt_of hk3
  obtain ⟨t, rfl⟩ := VR.int hv
  obtain ⟨t2, rfl⟩ := VR.int hv2
  refine ho _ _ _ _ _ _ _ (wpAny_bind (wp_rel (wpAny_bind (wpAny_holding (wpAny_truthy_bool ?_)))))
  have st3 := st.trans st2 S.hr S1.hr
  cases hc : c i j with
  | false =>
    rw [hc] at hk4
    exact wpAny_pure (PostB.from st3 S.hr S2.hr (PostB.tick (tk := s2.toks) S2.hr hk4))
  | true =>
    rw [hc] at hk4
    refine wpAny_bind (wpAny_holding (h₃.then (β := Unit) hA S2 hk4 fun u3 v3 η3 φ3 s3 hk5 hv3 st4 S3 => wpAny_bind (wpAny_standAt ?_)))
    obtain ⟨r, rfl, hk6⟩ := asInt_of hk5
    obtain ⟨t3, rfl⟩ := VR.int hv3
    refine wpAny_bind (wpAny_operating (ho2 _ _ _ _ _ _ _ (wpAny_holding (wpAny_truthy_bool ?_))))
    exact PostB.from (st3.trans st4 S.hr S2.hr) S.hr S3.hr (PostB.tick (tk := s3.toks) S3.hr hk6)
end
end Kp
end
-- part KpExpr2
section
set_option autoImplicit false
namespace Kp
open PySem PySem.W PyProof.Rows PySem.Calls

theorem getT_eq (η : H) (n : Nat) : getT η n = η.t.get n := rfl
theorem VR.handed {φ : Phi} {h : Heap} {v : V} {u : Value} (r : VR φ h v u) : handedIn u = true := by
  cases v with
  | unb => exact r.elim
  | none => rw [show u = .none from r]; rfl
  | bool b => rw [show u = .bool b from r]; rfl
  | int i => obtain ⟨t, rfl⟩ := VR.int r; rfl
  | ref n => obtain ⟨a, d, _, rfl⟩ := r; rfl
  | tup xs => obtain ⟨a, us, rfl, _⟩ := r; rfl
  | range a b c => obtain ⟨r, t, x, y, rfl, _⟩ := r; rfl

def intsOf : List V → List Int
  | [] => []
  | .int i :: r => i :: intsOf r
  | _ :: r => intsOf r
theorem allInts_cons {x : V} {xs : List V} (h : allInts (x :: xs) = true) : ∃ i, x = .int i ∧ allInts xs = true := by
  have h : asInt x (fun _ => allInts xs) = true := h
  obtain ⟨i, rfl, h⟩ := asInt_of h
  exact ⟨i, rfl, h⟩
theorem allInts_eq : ∀ {xs : List V}, allInts xs = true → xs = (intsOf xs).map V.int
  | [], _ => rfl
  | x :: xs, h => by
    obtain ⟨i, rfl, h1⟩ := allInts_cons h
    show V.int i :: xs = V.int i :: (intsOf xs).map V.int
    rw [← allInts_eq h1]
theorem intsAre_of {φ : Phi} {h : Heap} : ∀ {xs : List V} {us : List Value}, VsR φ h xs us → allInts xs = true → IntsAre us (intsOf xs)
  | [], us, r, _ => by rw [show us = [] from r]; exact .nil
  | x :: xs, us, ⟨u, r, e, a, b⟩, q => by
    subst e
    obtain ⟨i, rfl, h1⟩ := allInts_cons q
    obtain ⟨t, rfl⟩ := VR.int a
    exact .cons i t (intsAre_of b h1)
theorem memInts_of (i : Int) : ∀ (xs : List V) (k : Bool → Bool), memInts i xs k = true → allInts xs = true ∧ k ((intsOf xs).any (· == i)) = true
  | [], k, h => ⟨rfl, h⟩
  | x :: xs, k, h => by
    -- the recursor's own list is the whole one: one step at a time
    have step : ∀ (ys : List V) (w : List V), (@List.rec V (fun _ => (Bool → Bool) → Bool) (fun k => k false) (fun x _ ih k => asInt x fun j => bcase (ieq j i) (bcase (allInts w) (k true) false) (ih k)) ys k = true) →
        (allInts ys = true ∧ k ((intsOf ys).any (· == i)) = true ∧ (intsOf ys).any (· == i) = false) ∨ (allInts w = true ∧ k true = true ∧ ∃ a b, ys = a ++ V.int i :: b ∧ allInts a = true ∧ (intsOf a).any (· == i) = false) := by
      intro ys w
      induction ys with
      | nil => intro h; exact .inl ⟨rfl, h, rfl⟩
      | cons y ys ih =>
        intro h
        have h : asInt y (fun j => bcase (ieq j i) (bcase (allInts w) (k true) false) (@List.rec V (fun _ => (Bool → Bool) → Bool) (fun k => k false) (fun x _ ih k => asInt x fun j => bcase (ieq j i) (bcase (allInts w) (k true) false) (ih k)) ys k)) = true := h
        obtain ⟨j, rfl, h1⟩ := asInt_of h
        rw [ieq_eq] at h1
        cases q : j == i with
        | true =>
          rw [q] at h1
          obtain ⟨h2, h3⟩ := bc_of h1
          refine .inr ⟨h2, h3, [], ys, ?_, rfl, rfl⟩
          rw [eq_of_beq q]; rfl
        | false =>
          rw [q] at h1
          rcases ih h1 with ⟨a, b, c⟩ | ⟨a, b, l, r, e, c, d⟩
          · refine .inl ⟨?_, ?_, ?_⟩
            · exact a
            · show k ((j :: intsOf ys).any (· == i)) = true
              rw [List.any_cons, q, Bool.false_or]; exact b
            · show (j :: intsOf ys).any (· == i) = false
              rw [List.any_cons, q, Bool.false_or]; exact c
          · refine .inr ⟨a, b, V.int j :: l, r, by rw [e]; rfl, c, ?_⟩
            show (j :: intsOf l).any (· == i) = false
            rw [List.any_cons, q, Bool.false_or]; exact d
    rcases step (x :: xs) (x :: xs) h with ⟨a, b, _⟩ | ⟨a, b, l, r, e, c, d⟩
    · exact ⟨a, b⟩
    · refine ⟨a, ?_⟩
      have : (intsOf (x :: xs)).any (· == i) = true := by
        rw [e]
        clear e a
        induction l with
        | nil => show (i :: intsOf r).any (· == i) = true; simp
        | cons y l ih =>
          obtain ⟨j, rfl, c1⟩ := allInts_cons c
          show (j :: intsOf (l ++ V.int i :: r)).any (· == i) = true
          rw [List.any_cons, ih c1, Bool.or_true]
          have d : (j :: intsOf l).any (· == i) = false := d
          rw [List.any_cons, Bool.or_eq_false_iff] at d
          exact d.2
      rw [this]; exact b

section
variable {G : Base} {f : Fx} {n : Nat}

-- and, or as tests
def AT (G : Base) (f : Fx) (n : Nat) (op : BoolOp) (m : XE) (es : List Expr) : Prop :=
  ∀ A L φ η loc s k, Room A n → SR G f φ η L loc s → m loc η (fun v h => truthy v fun b => k b h) = true → wpAny G.M A (allTrue op es (f.env L)) (PostB G φ s k) NoE s
theorem at_one {op : BoolOp} {m : XE} {e : Expr} (h₁ : TS G f n m e) : AT G f n op m [e] := by
  intro A L φ η loc s k hA S h
  show wpAny _ _ (isTrue e (f.env L) (eval e (f.env L)) >>= fun b => match op, b with | .And, false => pure false | .Or, true => pure true | _, _ => allTrue op [] (f.env L)) _ _ _
  refine wpAny_bind (wpAny_mono (h₁ A L φ η loc s k hA S h) (fun b s' x => ?_) fun _ _ z => z)
  cases op <;> cases b <;> exact wpAny_pure x
theorem at_and {m₁ m₂ : XE} {e : Expr} {es : List Expr} (h₁ : TS G f n m₁ e) (h₂ : AT G f n .And m₂ es) : AT G f n .And (xand m₁ m₂) (e :: es) := by
  intro A L φ η loc s k hA S h
  show wpAny _ _ (isTrue e (f.env L) (eval e (f.env L)) >>= fun b => match BoolOp.And, b with | .And, false => pure false | .Or, true => pure true | _, _ => allTrue .And es (f.env L)) _ _ _
  have h' : m₁ loc η (fun v h => truthy v fun b => (fun b h => bcase b (m₂ loc h fun v h => truthy v fun b => k b h) (k false h)) b h) = true := by
    have e : (fun (va : V) (h : H) => truthy va fun t => bcase t (m₂ loc h fun v h => truthy v fun b => k b h) (truthy va fun b => k b h)) = fun v h => truthy v fun b => bcase b (m₂ loc h fun v h => truthy v fun b => k b h) (k false h) := by
      funext va h
      cases va <;> try rfl
      · rename_i b; cases b <;> rfl
      · rename_i i
        show bcase (bnt (ieq i (.ofNat 0))) _ (k (bnt (ieq i (.ofNat 0))) h) = bcase (bnt (ieq i (.ofNat 0))) _ (k false h)
        cases bnt (ieq i (.ofNat 0)) <;> rfl
    rw [← e]; exact h
  refine wpAny_bind (wpAny_mono (h₁ A L φ η loc s _ hA S h') (fun b s' x => ?_) fun _ _ z => z)
  obtain ⟨ζ, ψ, a, c, d⟩ := x
  cases b with
  | false => exact wpAny_pure ⟨ζ, ψ, a, c, d⟩
  | true => exact wpAny_mono (h₂ A L ψ ζ loc s' k hA (S.step c d) a) (fun b s'' y => PostB.from c S.hr d y) fun _ _ z => z
theorem at_or {m₁ m₂ : XE} {e : Expr} {es : List Expr} (h₁ : TS G f n m₁ e) (h₂ : AT G f n .Or m₂ es) : AT G f n .Or (xor m₁ m₂) (e :: es) := by
  intro A L φ η loc s k hA S h
  show wpAny _ _ (isTrue e (f.env L) (eval e (f.env L)) >>= fun b => match BoolOp.Or, b with | .And, false => pure false | .Or, true => pure true | _, _ => allTrue .Or es (f.env L)) _ _ _
  have h' : m₁ loc η (fun v h => truthy v fun b => (fun b h => bcase b (k true h) (m₂ loc h fun v h => truthy v fun b => k b h)) b h) = true := by
    have e : (fun (va : V) (h : H) => truthy va fun t => bcase t (truthy va fun b => k b h) (m₂ loc h fun v h => truthy v fun b => k b h)) = fun v h => truthy v fun b => bcase b (k true h) (m₂ loc h fun v h => truthy v fun b => k b h) := by
      funext va h
      cases va <;> try rfl
      · rename_i b; cases b <;> rfl
      · rename_i i
        show bcase (bnt (ieq i (.ofNat 0))) (k (bnt (ieq i (.ofNat 0))) h) _ = bcase (bnt (ieq i (.ofNat 0))) (k true h) _
        cases bnt (ieq i (.ofNat 0)) <;> rfl
    rw [← e]; exact h
  refine wpAny_bind (wpAny_mono (h₁ A L φ η loc s _ hA S h') (fun b s' x => ?_) fun _ _ z => z)
  obtain ⟨ζ, ψ, a, c, d⟩ := x
  cases b with
  | true => exact wpAny_pure ⟨ζ, ψ, a, c, d⟩
  | false => exact wpAny_mono (h₂ A L ψ ζ loc s' k hA (S.step c d) a) (fun b s'' y => PostB.from c S.hr d y) fun _ _ z => z
theorem ts_bool {op : BoolOp} {m : XE} {es : List Expr} {pos : Pos} (h₁ : AT G f n op m es) : TS G f n m (.BoolOp op es pos) := h₁

-- and, or as values
def BV (G : Base) (f : Fx) (n : Nat) (op : BoolOp) (m : XE) (es : List Expr) : Prop :=
  ∀ pos A L φ η loc s k, Room A n → SR G f φ η L loc s → m loc η k = true → wpAny G.M A (boolOp pos op (evalEach es (f.env L))) (Post G φ s k) NoE s
theorem bv_one {op : BoolOp} {m : XE} {e : Expr} (h₁ : ES G f n m e) : BV G f n op m [e] := fun _ A L φ η loc s k hA S h => h₁ A L φ η loc s k hA S h
theorem bv_and {m₁ m₂ : XE} {e e' : Expr} {es : List Expr} (h₁ : ES G f n m₁ e) (h₂ : BV G f n .And m₂ (e' :: es)) : BV G f n .And (xand m₁ m₂) (e :: e' :: es) := by
  intro pos A L φ η loc s k hA S h
  show wpAny _ _ (eval e (f.env L) >>= fun v => standAt pos >>= fun _ => holding [v] (PySem.truthy v) >>= fun t => match BoolOp.And, t with | .And, false | .Or, true => pure v | _, _ => boolOp pos .And (evalEach (e' :: es) (f.env L))) _ _ _
  refine wpAny_bind (h₁.then (β := Unit) hA S h fun u v η1 φ1 s1 hk hv st S1 => wpAny_bind (wpAny_standAt (wpAny_bind (wpAny_holding ?_))))
  obtain ⟨b, hb, y⟩ := truthy_of hk
  refine wp_truthy hv y ?_
  cases b with
  | false => exact wpAny_pure (Post.from st S.hr S1.hr (Post.tick (tk := s1.toks) S1.hr hb hv))
  | true => exact wpAny_mono (h₂ pos A L φ1 η1 loc s1 k hA S1 hb) (fun b s'' y => Post.from st S.hr S1.hr y) fun _ _ z => z
theorem bv_or {m₁ m₂ : XE} {e e' : Expr} {es : List Expr} (h₁ : ES G f n m₁ e) (h₂ : BV G f n .Or m₂ (e' :: es)) : BV G f n .Or (xor m₁ m₂) (e :: e' :: es) := by
  intro pos A L φ η loc s k hA S h
  show wpAny _ _ (eval e (f.env L) >>= fun v => standAt pos >>= fun _ => holding [v] (PySem.truthy v) >>= fun t => match BoolOp.Or, t with | .And, false | .Or, true => pure v | _, _ => boolOp pos .Or (evalEach (e' :: es) (f.env L))) _ _ _
  refine wpAny_bind (h₁.then (β := Unit) hA S h fun u v η1 φ1 s1 hk hv st S1 => wpAny_bind (wpAny_standAt (wpAny_bind (wpAny_holding ?_))))
  obtain ⟨b, hb, y⟩ := truthy_of hk
  refine wp_truthy hv y ?_
  cases b with
  | true => exact wpAny_pure (Post.from st S.hr S1.hr (Post.tick (tk := s1.toks) S1.hr hb hv))
  | false => exact wpAny_mono (h₂ pos A L φ1 η1 loc s1 k hA S1 hb) (fun b s'' y => Post.from st S.hr S1.hr y) fun _ _ z => z
theorem es_boolv {op : BoolOp} {m : XE} {es : List Expr} {pos : Pos} (h₁ : BV G f n op m es) : ES G f n m (.BoolOp op es pos) := fun A L φ η loc s k hA S h => h₁ pos A L φ η loc s k hA S h

-- an field of the record
theorem HR.inst {φ : Phi} {η : H} {h : Heap} (r : HR G φ η h) {i : Nat} {a d : Addr} {fs : List V} (e : φ[i]? = some (a, d)) (o : η.t.get i = .inst fs) :
    ∃ es n, PySem.W.InstAt h a (instObj G.C d) G.C (some (dictOf es n)) ∧ FieldsR φ h fs es := by
  have x := r.obj i a d e
  rw [o] at x
  obtain ⟨ha, es, n, hd, hf⟩ := x
  exact ⟨es, n, ⟨ha, rfl, rfl, hd⟩, hf⟩
theorem es_attr {m : XE} {e : Expr} {i : Nat} {nm : Str} {pos : Pos} (hn : fieldNames[i]? = some nm) (h₁ : ES G f n m e)
    (he : ∀ env, eval (.Attribute e nm pos) env = (do
      let o ← eval e env
      standAt pos.atName
      let r ← holding [o] (getAttr o nm true)
      letTemporaryGo e o r
      pure r) := by intro _; with_unfolding_all rfl) : ES G f n (xattr m i) (.Attribute e nm pos) := by
  intro A L φ η loc s k hA S h
  refine Attribute_any_ (he := he _) (h₁.then (β := Unit) hA S h fun u v η1 φ1 s1 hk hv st S1 => ?_)
  obtain ⟨j, rfl, hk1⟩ := asRef_of hk
  obtain ⟨a, d, ej, rfl⟩ := hv
  rw [getT_eq] at hk1
  rcases obj_of hk1 with ⟨xs, _, q⟩ | ⟨ep, kvs, _, q⟩ | ⟨fs, eo, q⟩
  · cases q
  · cases q
  · obtain ⟨hu, hk2⟩ := known_of q
    obtain ⟨es, nn, I, F⟩ := S1.hr.inst ej eo
    obtain ⟨w, hw, hr⟩ := F.get i nm hn hu
    have mem := List.mem_of_getElem? hn
    obtain ⟨attr, ha, hg⟩ := G.cfind nm mem
    exact get_value (prog := G.prog) (w := G.w) (fun b o e => S1.hr.keep b o (G.X b o e)) I (plainGet_of (G.cget nm mem)).1 (findObj_own G.cdict ha hg hw) hr.handed
      (Post.from st S.hr S1.hr (Post.tick S1.hr hk2 hr))

-- an item
theorem nth_of {xs : List V} {i : Int} {k : V → Bool} (h : nth xs i k = true) : ∃ j : Nat, i = .ofNat j ∧ j ≤ 1000000 ∧ xs[j]? = some (getV xs j) ∧ k (getV xs j) = true := by
  cases i with
  | negSucc j => cases h
  | ofNat j =>
    have h : bcase (Nat.ble j 1000000) (known (getV xs j) k) false = true := h
    obtain ⟨h1, h2⟩ := bc_of h
    obtain ⟨h3, h4⟩ := known_of h2
    exact ⟨j, rfl, Nat.le_of_ble_eq_true h1, getV_some h3, h4⟩
theorem HR.list {φ : Phi} {η : H} {h : Heap} (r : HR G φ η h) {i : Nat} {a d : Addr} {xs : List V} (e : φ[i]? = some (a, d)) (o : η.t.get i = .list xs) :
    a = d ∧ ∃ us, PlainL h d (List.toArray us) ∧ VsR φ h xs us := by
  have x := r.obj i a d e
  rw [o] at x; exact x
theorem HR.dict {φ : Phi} {η : H} {h : Heap} (r : HR G φ η h) {i : Nat} {a d : Addr} {ep : Nat} {kvs : List (V × V)} (e : φ[i]? = some (a, d)) (o : η.t.get i = .dict ep kvs) :
    a = d ∧ ∃ xs, h.get? d = some { cls := .type "dict", data := .dict (List.toArray (xs.map (entryOfKey G.knd))) ep } ∧ (xs.map (·.1)).Nodup ∧ DR G φ h kvs xs := by
  have x := r.obj i a d e
  rw [o] at x; exact x
theorem itemsAre_of {φ : Phi} {h : Heap} : ∀ {xs : List V} {us : List Value}, VsR φ h xs us → allInts xs = true → ItemsAre (intKind G.prog G.w) (intsOf xs) us
  | [], us, r, _ => by rw [show us = [] from r]; exact .nil
  | x :: xs, us, ⟨u, r, e, a, b⟩, q => by
    subst e
    obtain ⟨i, rfl, h1⟩ := allInts_cons q
    obtain ⟨t, rfl⟩ := VR.int a
    exact .cons (intKind_is G.prog G.w i t) (itemsAre_of b h1)
theorem tupKey_of {φ : Phi} {h : Heap} {q : List V} {u : Value} (r : VR φ h (.tup q) u) (a : allInts q = true) : ∃ t, u = .ref t ∧ G.knd.is h (intsOf q) t := by
  obtain ⟨t, us, rfl, ⟨o, ho, hc, n, hd⟩, hv⟩ := r
  exact ⟨t, rfl, o, _, n, ho, hc, hd, itemsAre_of hv a⟩
theorem DR.is {φ : Phi} {h : Heap} : ∀ {kvs : List (V × V)} {xs : List (List Int × Addr × Value)}, DR G φ h kvs xs → ∀ x ∈ xs, G.knd.is h x.1 x.2.1
  | [], _, r, x, hx => by rw [show _ = [] from r] at hx; cases hx
  | _ :: _, _, ⟨q, y, s, e, _, k, _, r⟩, x, hx => by
    subst e
    rcases List.mem_cons.mp hx with rfl | hx
    · exact k
    · exact DR.is r x hx
theorem DR.ofH {φ : Phi} {h : Heap} {d : Addr} {ep : Nat} {kvs : List (V × V)} {xs : List (List Int × Addr × Value)} (o : h.get? d = some { cls := .type "dict", data := .dict (List.toArray (xs.map (entryOfKey G.knd))) ep }) (n : (xs.map (·.1)).Nodup)
    (r : DR G φ h kvs xs) : h.DictOfH G.knd d xs := ⟨_, _, ep, o, ⟨rfl, rfl, rfl⟩, rfl, rfl, r.is, n⟩
theorem keyEq_of : ∀ {xs ys : List V}, keyEq xs ys = true → allInts ys = true → intsOf xs = intsOf ys ∧ allInts xs = true
  | [], [], _, _ => ⟨rfl, rfl⟩
  | [], _ :: _, h, _ => by cases h
  | _ :: _, [], h, _ => by cases h
  | x :: xs, y :: ys, h, a => by
    have h : asInt x (fun a => asInt y fun b => bcase (ieq a b) (keyEq xs ys) false) = true := h
    obtain ⟨i, rfl, h1⟩ := asInt_of h
    obtain ⟨j, rfl, h2⟩ := asInt_of h1
    obtain ⟨h3, h4⟩ := bc_of h2
    rw [ieq_eq] at h3
    have e := eq_of_beq h3
    subst e
    obtain ⟨_, _, a'⟩ := allInts_cons a
    obtain ⟨p, q⟩ := keyEq_of h4 a'
    exact ⟨by show i :: intsOf xs = i :: intsOf ys; rw [p], q⟩
theorem keyEq_map (a b : List Int) : keyEq (a.map V.int) (b.map V.int) = decide (a = b) := by
  induction a generalizing b with
  | nil => cases b <;> simp <;> rfl
  | cons x a ih =>
    cases b with
    | nil => simp; rfl
    | cons y b =>
      show bcase (ieq x y) (keyEq (a.map V.int) (b.map V.int)) false = _
      rw [ieq_eq, ih]
      by_cases h : x = y
      · subst h; simp [bcase]
      · have : (x == y) = false := by simpa using h
        rw [this]; simp [bcase, h]
-- what the search finds
theorem dfind_of {φ : Phi} {h : Heap} {key : List V} (ka : allInts key = true) {no : Bool} {k : Nat → V → Bool} : ∀ {kvs : List (V × V)} {xs : List (List Int × Addr × Value)} {n : Nat}, DR G φ h kvs xs → dfind key kvs no n k = true →
    (atKey xs (intsOf key) = none ∧ no = true) ∨ ∃ j a v u, xs[j]? = some (intsOf key, a, u) ∧ (kvs[j]?).map (·.2) = some v ∧ VR φ h v u ∧ k (n + j) v = true
  | [], xs, n, r, q => by
    rw [show xs = [] from r]
    exact .inl ⟨rfl, q⟩
  | p :: kvs, xs, n, ⟨ks, y, s, e, pk, ki, kv, r⟩, q => by
    subst e
    obtain ⟨p1, p2⟩ := p
    dsimp only at pk kv
    subst pk
    have q : bcase (keyEq (ks.map V.int) key) (k n p2) (dfind key kvs no (Nat.succ n) k) = true := q
    have eq1 : keyEq (ks.map V.int) key = decide (ks = intsOf key) := by
      conv => lhs; rw [allInts_eq ka]
      exact keyEq_map _ _
    rw [eq1] at q
    by_cases c : ks = intsOf key
    · rw [decide_eq_true c] at q
      refine .inr ⟨0, y.1, p2, y.2, ?_, rfl, kv, q⟩
      rw [c]; rfl
    · rw [decide_eq_false c] at q
      rcases dfind_of ka r q with ⟨a, b⟩ | ⟨j, a, v, u, e1, e2, e3, e4⟩
      · refine .inl ⟨?_, b⟩
        unfold atKey
        rw [List.find?_cons, decide_eq_false c]
        exact a
      · refine .inr ⟨j + 1, a, v, u, ?_, ?_, e3, ?_⟩
        · simpa using e1
        · simpa using e2
        · have : n + (j + 1) = Nat.succ n + j := by omega
          rw [this]; exact e4
theorem asKey_of {v : V} {k : List V → Bool} (h : asKey v k = true) : ∃ q, v = .tup q ∧ allInts q = true ∧ k q = true := by
  obtain ⟨q, rfl, h1⟩ := asTup_of h
  obtain ⟨h2, h3⟩ := bc_of h1
  exact ⟨q, rfl, h2, h3⟩
theorem HR.notMod {φ : Phi} {η : H} {h : Heap} (r : HR G φ η h) {i : Nat} {a d : Addr} (e : φ[i]? = some (a, d)) : (d == sysModules) = false := by
  exact beq_eq_false_iff_ne.mpr (Nat.ne_of_gt (r.above (a, d) (List.mem_of_getElem? e)).2)

theorem es_sub {m₁ m₂ : XE} {e₁ e₂ : Expr} {pos : Pos} (h₁ : ES G f n m₁ e₁) (h₂ : ES G f n m₂ e₂)
    (hs : ∀ o i, subscripted e₂ false o i = operate [o, i] (getItem o i) := by intro _ _; with_unfolding_all rfl) : ES G f n (xsub m₁ m₂) (.Subscript e₁ e₂ pos) := by
  intro A L φ η loc s k hA S h
  refine Subscript_ (h₁.then (β := Unit) hA S h fun u v η1 φ1 s1 hk hv st S1 => ?_)
  refine h₂.then (β := Unit) hA S1 hk fun u2 v2 η2 φ2 s2 hk2 hv2 st2 S2 => ?_
  have hv := hv.st st2.pre (S1.st st2)
  have st3 := st.trans st2 S.hr S1.hr
  cases v with
  | ref j =>
    obtain ⟨a, d, ej, rfl⟩ := hv
    have hk2 : objCase (getT η2 j) (fun xs => asInt v2 fun j => nth xs j fun v => k v η2) (fun _ kvs => asKey v2 fun q => dfind q kvs false 0 fun _ v => k v η2) (fun _ => false) = true := (sub_so (getS η2 j) v2 (fun v => k v η2) (fun _ kvs => asKey v2 fun q => dfind q kvs false 0 fun _ v => k v η2) (fun _ => false)).symm.trans hk2
    rw [getT_eq] at hk2
    rcases obj_of hk2 with ⟨xs, eo, q⟩ | ⟨ep, kvs, eo, q⟩ | ⟨fs, eo, q⟩
    · obtain ⟨i, rfl, q1⟩ := asInt_of q
      obtain ⟨jj, rfl, hb, hg, q2⟩ := nth_of q1
      obtain ⟨t, rfl⟩ := VR.int hv2
      obtain ⟨rfl, us, hl, hu⟩ := S2.hr.list ej eo
      obtain ⟨x, hx, hr⟩ := hu.get hg
      refine tail_any hl.isList.typeIs slot_list_getitem.lookup (wpAny_getItem_list hl.isList (by simp) (by show (jj : Int) < 2 ^ 63; omega) (by simpa using hx) ?_) (hs _ _)
      exact Post.from st3 S.hr S2.hr (Post.tick (tk := s2.toks) S2.hr q2 hr)
    · obtain ⟨key, rfl, ka, q1⟩ := asKey_of q
      obtain ⟨t, rfl, hk⟩ := tupKey_of (G := G) hv2 ka
      obtain ⟨rfl, xs, ho, hn, hd⟩ := S2.hr.dict ej eo
      have D := hd.ofH ho hn
      rcases dfind_of ka hd q1 with ⟨_, c⟩ | ⟨jj, b, v, x, e1, _, hr, q2⟩
      · cases c
      · refine tail_any D.typeIs slot_dict_getitem.lookup (wpAny_getItem_heap (tupleKind_room_in1 (by have := hA.units; omega)) hk D (atKey_of_get hn e1) ?_) (hs _ _)
        exact Post.from st3 S.hr S2.hr (Post.tick S2.hr q2 hr)
    · cases q
  | tup xs =>
    obtain ⟨t, us, rfl, ht, hu⟩ := hv
    have hk2 : asInt v2 (fun j => nth xs j fun v => k v η2) = true := hk2
    obtain ⟨i, rfl, q1⟩ := asInt_of hk2
    obtain ⟨jj, rfl, hb, hg, q2⟩ := nth_of q1
    obtain ⟨t2, rfl⟩ := VR.int hv2
    obtain ⟨x, hx, hr⟩ := hu.get hg
    refine item_tupleT (j := jj) ht (by show -(2 ^ 63) ≤ (jj : Int); omega) (by show (jj : Int) < 2 ^ 63; omega) ?_ hx ?_ (hs _ _)
    · have hlt : jj < us.length := (List.getElem?_eq_some_iff.mp hx).1
      have h0 : ¬ ((jj : Int) < 0) := by omega
      unfold seqIndex?
      simp [h0, hlt]
    · exact Post.from st3 S.hr S2.hr (Post.tick (tk := s2.toks) S2.hr q2 hr)
  | _ => cases hk2
end
end Kp
end
-- part KpExpr3
section
set_option autoImplicit false
set_option linter.unusedVariables false
namespace Kp
open PySem PySem.W PyProof.Rows PySem.Calls

section
variable {G : Base} {f : Fx} {n : Nat}

theorem SR.big {φ : Phi} {η : H} {L : Addr} {loc : Loc} {s : Shared} (S : SR G f φ η L loc s) : G.h₀.objs.size < s.heap.objs.size := by
  obtain ⟨m, ns, -⟩ := S.fr
  exact Nat.lt_of_le_of_lt S.above ns.lt

-- a built-in's name
theorem name_b {x : Str} {pos : Pos} {v : Value} {A : Around} {L : Addr} {φ : Phi} {η : H} {loc : Loc} {s : Shared} {Q : Value → Shared → Prop} (ok : f.Ok) (hx : f.cs.names.lookup x = some .globalImplicit)
    (hb : x = "len" ∨ x = "abs" ∨ x = "min" ∨ x = "range") (hv : bootBuiltins x = some v) (hd : (x == ("__debug__" : Str)) = false) (S : SR G f φ η L loc s) (h : Q v s) : wpAny G.M A (eval (.Name x pos) (f.env L)) Q NoE s := by
  obtain ⟨h1, h2⟩ := G.nob x hb
  exact Name_function_global (env := f.env L) ok.kind hx (loadGlobal_builtin (env := f.env L) (G.g.keeps S.hr.keep) h1 (G.b.keeps S.hr.keep) (h2.trans hv) h) hd

-- arguments
def PostL (G : Base) (φ : Phi) (s : Shared) (k : List V → H → Bool) (us : List Value) (s' : Shared) : Prop :=
  ∃ vs η' φ', k vs η' = true ∧ VsR φ' s'.heap vs us ∧ Step φ φ' s s' ∧ HR G φ' η' s'.heap
def LS (G : Base) (f : Fx) (n : Nat) (m : XL) (es : List Expr) : Prop :=
  ∀ pos A L φ η loc s k, Room A n → SR G f φ η L loc s → m loc η k = true → wpAny G.M A (spliced (backTo pos (starEach es (f.env L)))) (PostL G φ s k) NoE s
theorem ls_nil : LS G f n enil [] := fun _ A L φ η loc s k hA S h => spliced_nil ⟨[], η, φ, h, rfl, Step.refl _ _, S.hr⟩
theorem ls_cons {m : XE} {r : XL} {e : Expr} {es : List Expr} (h₁ : ES G f n m e) (h₂ : LS G f n r es) (he : ∀ env, starEach (e :: es) env = (false, eval e env) :: starEach es env := by intro _; rfl) : LS G f n (econs m r) (e :: es) := by
  intro pos A L φ η loc s k hA S h
  rw [he]
  refine spliced_cons (h₁.then (β := Unit) hA S h fun u v η1 φ1 s1 hk hv st S1 => ?_)
  refine wpAny_mono (h₂ pos A L φ1 η1 loc s1 _ hA S1 hk) (fun us s2 x => ?_) fun _ _ z => z
  obtain ⟨vs, ζ, ψ, a, b, c, d⟩ := x
  exact ⟨v :: vs, ζ, ψ, a, ⟨u, us, rfl, hv.st c.pre (S1.st c), b⟩, st.trans c S.hr S1.hr, d⟩

-- a function, told by what its combinator answers
def FS (G : Base) (n : Nat) (fn : Fn) (a : Addr) : Prop :=
  ∀ A φ η s vs us k, Room A n → HR G φ η s.heap → G.h₀.objs.size ≤ s.heap.objs.size → VsR φ s.heap vs us → fn vs η k = true →
    codeAny G.M A (.call (.ref a) ⟨us, []⟩) (fun r s' => match r with | .ok (.ret u) => Post G φ s k u s' | .ok _ => False | .error _ => False) s
theorem FS.more {fn : Fn} {a : Addr} {n m : Nat} (x : FS G n fn a) (h : n ≤ m) : FS G m fn a := fun A φ η s vs us k hA => x A φ η s vs us k (hA.less h)
theorem FS.wp {fn : Fn} {a : Addr} (x : FS G n fn a) {A : Around} {φ : Phi} {η : H} {s : Shared} {vs : List V} {us : List Value} {k : V → H → Bool} (hA : Room A n) (r : HR G φ η s.heap) (z : G.h₀.objs.size ≤ s.heap.objs.size) (v : VsR φ s.heap vs us) (h : fn vs η k = true) :
    wpAny G.M A (call (.ref a) us) (Post G φ s k) NoE s :=
  wpAny_call (codeAny_mono (x A φ η s vs us k hA r z v h) fun r s' y => by
    rcases r with e | (u | _ | _ | _) <;> first | exact y | exact y.elim)
structure FnAt (G : Base) (x : Str) (a : Addr) : Prop where
  name : G.mg x = some (.ref a)
  obj : ∃ o fd, G.h₀.get? a = some o ∧ o.data = .func fd
theorem es_call {fn : Fn} {a : Addr} {m : XE} {r : XL} {x : Str} {e : Expr} {es : List Expr} {p pos : Pos} (ok : f.Ok) (hx : f.cs.names.lookup x = some .globalImplicit) (hd : (x == ("__debug__" : Str)) = false) (F : FnAt G x a) (hf : FS G n fn a) (h₁ : LS G f n (econs m r) (e :: es))
    (he : ∀ env, starEach (e :: es) env = (false, eval e env) :: starEach es env := by intro _; rfl) :
    ES G f n (xcall fn (econs m r)) (.Call (.Name x p) (e :: es) [] pos) := by
  intro A L φ η loc s k hA S h
  obtain ⟨o, fd, ho, hdat⟩ := F.obj
  refine wpAny_Call_NameR (Name_function_global (env := f.env L) ok.kind hx (loadGlobal_global (env := f.env L) (G.g.keeps S.hr.keep) F.name ?_) hd)
  refine callWith_function (o := o) (fd := fd) ?_
  have z := h₁ pos A L φ η loc s _ hA S h
  rw [he] at z ⊢
  refine evalArgs_plain (wpAny_mono z (fun us s' y => ?_) fun _ _ z => z)
  obtain ⟨vs, ζ, ψ, b, c, d, e'⟩ := y
  refine ⟨⟨e'.keep _ _ ho, hdat⟩, ?_⟩
  have S' := S.step d e'
  exact wpAny_mono (hf.wp hA e' (Nat.le_of_lt S'.big) c b) (fun u s'' y => Post.from d S.hr e' y) fun _ _ z => z

-- len, abs, min, range
theorem boot_len : bootBuiltins "len" = some (.builtin "len") := by decide +kernel
theorem boot_abs : bootBuiltins "abs" = some (.builtin "abs") := by decide +kernel
theorem boot_range : bootBuiltins "range" = some (.type "range") := by decide +kernel
theorem es_len {m : XE} {e : Expr} {p pos : Pos} (ok : f.Ok) (hx : f.cs.names.lookup ("len" : Str) = some .globalImplicit) (h₁ : ES G f n m e) (he : ∀ env, starEach [e] env = [(false, eval e env)] := by intro _; rfl) : ES G f n (xlen m) (.Call (.Name "len" p) [e] [] pos) := by
  intro A L φ η loc s k hA S h
  refine wpAny_Call_NameR (name_b ok hx (.inl rfl) boot_len (by decide) S (callWith_builtin (by rw [he]; rfl) ?_))
  rw [he]
  refine evalArgs_plain (spliced_cons (h₁.then (β := Unit) hA S h fun u v η1 φ1 s1 hk hv st S1 => spliced_nil ?_))
  obtain ⟨j, xs, rfl, eo, hk1⟩ := asList_of hk
  obtain ⟨hb, hk2⟩ := bc_of hk1
  obtain ⟨a, d, ej, rfl⟩ := hv
  obtain ⟨rfl, us, hl, hu⟩ := S1.hr.list ej eo
  have hlen := hu.length
  have hb : lenV xs ≤ 1000000 := Nat.le_of_ble_eq_true hb
  rw [lenV_eq] at hb hk2
  refine call_len_list hl.isList (by rw [List.size_toArray, hlen]; omega) ?_
  rw [List.size_toArray, hlen]
  exact Post.from st S.hr S1.hr (Post.tick S1.hr hk2 ⟨_, rfl⟩)
theorem iabs_eq (i : Int) : iabs i = if i < 0 then -i else i := by
  cases i with
  | ofNat m => show Int.ofNat m = _; rw [if_neg (by simp)]
  | negSucc m => show Int.ofNat (m + 1) = _; rw [if_pos (by rw [Int.negSucc_eq]; omega), Int.negSucc_eq]; simp
theorem es_abs {m : XE} {e : Expr} {p pos : Pos} (ok : f.Ok) (hx : f.cs.names.lookup ("abs" : Str) = some .globalImplicit) (h₁ : ES G f n m e) (he : ∀ env, starEach [e] env = [(false, eval e env)] := by intro _; rfl) : ES G f n (xabs m) (.Call (.Name "abs" p) [e] [] pos) := by
  intro A L φ η loc s k hA S h
  refine wpAny_Call_NameR (name_b ok hx (.inr (.inl rfl)) boot_abs (by decide) S (callWith_builtin (by rw [he]; rfl) ?_))
  rw [he]
  refine evalArgs_plain (spliced_cons (h₁.then (β := Unit) hA S h fun u v η1 φ1 s1 hk hv st S1 => spliced_nil ?_))
  obtain ⟨i, rfl, hk1⟩ := asInt_of hk
  obtain ⟨t, rfl⟩ := VR.int hv
  rw [iabs_eq] at hk1
  exact call_abs_int fun u tk => Post.from st S.hr S1.hr (Post.tick S1.hr hk1 ⟨_, rfl⟩)
theorem es_min {m₁ m₂ : XE} {e₁ e₂ : Expr} {p pos : Pos} (ok : f.Ok) (hx : f.cs.names.lookup ("min" : Str) = some .globalImplicit) (h₁ : ES G f n m₁ e₁) (h₂ : ES G f n m₂ e₂) (he : ∀ env, starEach [e₁, e₂] env = [(false, eval e₁ env), (false, eval e₂ env)] := by intro _; rfl) :
    ES G f n (xmin m₁ m₂) (.Call (.Name "min" p) [e₁, e₂] [] pos) := by
  intro A L φ η loc s k hA S h
  refine wpAny_Call_NameR (name_b ok hx (.inr (.inr (.inl rfl))) boot_min (by decide) S (callWith_builtin (by rw [he]; rfl) ?_))
  rw [he]
  refine evalArgs_plain (spliced_cons (h₁.then (β := Unit) hA S h fun u v η1 φ1 s1 hk hv st S1 => spliced_cons (h₂.then (β := Unit) hA S1 hk fun u2 v2 η2 φ2 s2 hk2 hv2 st2 S2 => spliced_nil ?_)))
  obtain ⟨i, rfl, hk3⟩ := asInt_of hk2
  obtain ⟨j, rfl, hk4⟩ := asInt_of hk3
  obtain ⟨t, rfl⟩ := VR.int hv
  obtain ⟨t2, rfl⟩ := VR.int hv2
  rw [ilt_eq] at hk4
  refine min_two_ints hA.handled fun h' tk kp => ?_
  have st3 := st.trans st2 S.hr S1.hr
  by_cases c : j < i
  · rw [decide_eq_true c] at hk4
    rw [if_pos c]
    exact Post.from st3 S.hr S2.hr (Post.mk S2.hr hk4 ⟨_, rfl⟩ kp)
  · rw [decide_eq_false c] at hk4
    rw [if_neg c]
    exact Post.from st3 S.hr S2.hr (Post.mk S2.hr hk4 ⟨_, rfl⟩ kp)
theorem small_neg {a b : Int} (ha : -(2 ^ 62) ≤ a) (ha' : a < 2 ^ 62) (hb : -(2 ^ 62) ≤ b) (hb' : b < 2 ^ 62) : Builtin.Range.small a b (-1) = true := by
  unfold Builtin.Range.small Builtin.Range.rangeSize
  simp only [Builtin.Range.rangeFitsLong, Bool.and_eq_true, Bool.or_eq_true, decide_eq_true_eq, beq_iff_eq, show ¬ ((-1 : Int) > 0) by decide, if_false, Int.neg_neg, Int.ediv_one]
  (repeat' split) <;> omega
theorem small_pos {a b c : Int} (ha : -(2 ^ 62) ≤ a) (ha' : a < 2 ^ 62) (hb : -(2 ^ 62) ≤ b) (hb' : b < 2 ^ 62) (hc : 0 < c) (hc' : c ≤ 1000) : Builtin.Range.small a b c = true := by
  unfold Builtin.Range.small Builtin.Range.rangeSize
  rw [if_pos hc, if_pos hc]
  by_cases q : a < b
  · have h0 : 0 ≤ (b - a - 1) / c := Int.ediv_nonneg (by omega) (by omega)
    have h1 : (b - a - 1) / c ≤ b - a - 1 := Int.ediv_le_self _ (by omega)
    rw [if_pos q]
    simp only [Builtin.Range.rangeFitsLong, Bool.and_eq_true, Bool.or_eq_true, decide_eq_true_eq, beq_iff_eq]
    generalize (b - a - 1) / c = z at h0 h1
    omega
  · rw [if_neg q]
    simp only [Builtin.Range.rangeFitsLong, Bool.and_eq_true, Bool.or_eq_true, decide_eq_true_eq, beq_iff_eq]
    omega
theorem stepOk_of {m : Int} (h : stepOk m = true) : (0 < m ∨ m = -1) ∧ -1 ≤ m ∧ m ≤ 1000 := by
  cases m with
  | ofNat n =>
    have h : bcase (Nat.ble 1 n) (Nat.ble n 1000) false = true := h
    obtain ⟨h1, h2⟩ := bc_of h
    have h1 := Nat.le_of_ble_eq_true h1
    have h2 := Nat.le_of_ble_eq_true h2
    simp only [Int.ofNat_eq_natCast]
    omega
  | negSucc n =>
    have h : Nat.beq n 0 = true := h
    have := Nat.eq_of_beq_eq_true h
    subst this
    exact ⟨.inr rfl, by decide, by decide⟩
theorem es_range1 {m : XE} {e : Expr} {p pos : Pos} (ok : f.Ok) (hx : f.cs.names.lookup ("range" : Str) = some .globalImplicit) (h₁ : ES G f n m e) (he : ∀ env, starEach [e] env = [(false, eval e env)] := by intro _; rfl) : ES G f n (xrange1 m) (.Call (.Name "range" p) [e] [] pos) := by
  intro A L φ η loc s k hA S h
  refine wpAny_Call_NameR (name_b ok hx (.inr (.inr (.inr rfl))) boot_range (by decide) S (PyProof.Rows.callWith_type (by rw [he]; rfl) ?_))
  rw [he]
  refine evalArgs_plain (spliced_cons (h₁.then (β := Unit) hA S h fun u v η1 φ1 s1 hk hv st S1 => spliced_nil ?_))
  obtain ⟨i, rfl, hk1⟩ := asInt_of hk
  obtain ⟨t, rfl⟩ := VR.int hv
  obtain ⟨hk2, b1, b2⟩ := small_of hk1
  refine call_range_1 (Post.from st S.hr S1.hr (Post.mk S1.hr hk2 ?_ fun b o e => Heap.get?_push_of_some _ e))
  exact ⟨_, _, _, _, rfl, IsRange.new .., small_one (by decide) (by decide) (by omega) (by omega), .inl (by decide)⟩
theorem es_range2 {m₁ m₂ : XE} {e₁ e₂ : Expr} {p pos : Pos} (ok : f.Ok) (hx : f.cs.names.lookup ("range" : Str) = some .globalImplicit) (h₁ : ES G f n m₁ e₁) (h₂ : ES G f n m₂ e₂) (he : ∀ env, starEach [e₁, e₂] env = [(false, eval e₁ env), (false, eval e₂ env)] := by intro _; rfl) :
    ES G f n (xrange2 m₁ m₂) (.Call (.Name "range" p) [e₁, e₂] [] pos) := by
  intro A L φ η loc s k hA S h
  refine wpAny_Call_NameR (name_b ok hx (.inr (.inr (.inr rfl))) boot_range (by decide) S (PyProof.Rows.callWith_type (by rw [he]; rfl) ?_))
  rw [he]
  refine evalArgs_plain (spliced_cons (h₁.then (β := Unit) hA S h fun u v η1 φ1 s1 hk hv st S1 => spliced_cons (h₂.then (β := Unit) hA S1 hk fun u2 v2 η2 φ2 s2 hk2 hv2 st2 S2 => spliced_nil ?_)))
  obtain ⟨i, rfl, hk3⟩ := asInt_of hk2
  obtain ⟨j, rfl, hk4⟩ := asInt_of hk3
  obtain ⟨t, rfl⟩ := VR.int hv
  obtain ⟨t2, rfl⟩ := VR.int hv2
  obtain ⟨hk5, b1, b2⟩ := small_of hk4
  obtain ⟨hk6, b3, b4⟩ := small_of hk5
  refine call_range_2 (Post.from (st.trans st2 S.hr S1.hr) S.hr S2.hr (Post.mk S2.hr hk6 ?_ fun b o e => Heap.get?_push_of_some _ e))
  exact ⟨_, _, _, _, rfl, IsRange.new .., small_one (by omega) (by omega) (by omega) (by omega), .inl (by decide)⟩
theorem es_range3 {m₁ m₂ m₃ : XE} {e₁ e₂ e₃ : Expr} {p pos : Pos} (ok : f.Ok) (hx : f.cs.names.lookup ("range" : Str) = some .globalImplicit) (h₁ : ES G f n m₁ e₁) (h₂ : ES G f n m₂ e₂) (h₃ : ES G f n m₃ e₃)
    (he : ∀ env, starEach [e₁, e₂, e₃] env = [(false, eval e₁ env), (false, eval e₂ env), (false, eval e₃ env)] := by intro _; rfl) :
    ES G f n (xrange3 m₁ m₂ m₃) (.Call (.Name "range" p) [e₁, e₂, e₃] [] pos) := by
  intro A L φ η loc s k hA S h
  refine wpAny_Call_NameR (name_b ok hx (.inr (.inr (.inr rfl))) boot_range (by decide) S (PyProof.Rows.callWith_type (by rw [he]; rfl) ?_))
  rw [he]
  refine evalArgs_plain (spliced_cons (h₁.then (β := Unit) hA S h fun u v η1 φ1 s1 hk hv st S1 => spliced_cons (h₂.then (β := Unit) hA S1 hk fun u2 v2 η2 φ2 s2 hk2 hv2 st2 S2 => spliced_cons (h₃.then (β := Unit) hA S2 hk2 fun u3 v3 η3 φ3 s3 hk3 hv3 st3 S3 => spliced_nil ?_))))
  obtain ⟨i, rfl, hk4⟩ := asInt_of hk3
  obtain ⟨j, rfl, hk5⟩ := asInt_of hk4
  obtain ⟨c, rfl, hk6⟩ := asInt_of hk5
  obtain ⟨t, rfl⟩ := VR.int hv
  obtain ⟨t2, rfl⟩ := VR.int hv2
  obtain ⟨t3, rfl⟩ := VR.int hv3
  obtain ⟨hk7, b1, b2⟩ := small_of hk6
  obtain ⟨hk8, b3, b4⟩ := small_of hk7
  obtain ⟨q, hk9⟩ := bc_of hk8
  obtain ⟨q0, q1, q2⟩ := stepOk_of q
  refine call_range_3 (by omega) (Post.from ((st.trans st2 S.hr S1.hr).trans st3 S.hr S2.hr) S.hr S3.hr (Post.mk S3.hr hk9 ?_ fun b o e => Heap.get?_push_of_some _ e)) (Or.inl (PyProof.noPylong_small (by omega)))
  refine ⟨_, _, _, _, rfl, IsRange.new .., ?_, q0⟩
  rcases q0 with q0 | rfl
  · exact small_pos (by omega) (by omega) (by omega) (by omega) q0 (by omega)
  · exact small_neg (by omega) (by omega) (by omega) (by omega)

-- displays
theorem PlainL.new (h : Heap) (us : List Value) : PlainL (h.push { cls := .type "list", data := .seq (List.toArray us) }) h.objs.size (List.toArray us) := ⟨_, 0, Heap.get?_push_size _ rfl, rfl, rfl, rfl⟩
theorem no_at_size (h : Heap) : ∀ ob, h.get? h.objs.size ≠ some ob := fun ob e => absurd (Heap.lt_size e) (Nat.lt_irrefl _)
theorem size_ok {us : List Value} (h : us.length ≤ 1000000) : us.length ≤ sizeLine := by rw [sizeLine_eq]; omega
-- a new list
theorem new_list {φ : Phi} {η : H} {s : Shared} {vs : List V} {us : List Value} {k : V → H → Bool} (r : HR G φ η s.heap) (z : G.h₀.objs.size ≤ s.heap.objs.size) (v : VsR φ s.heap vs us) (h : alloc (.list vs) η k = true) :
    Post G φ s k (.ref s.heap.objs.size) { s with heap := s.heap.push { cls := .type "list", data := .seq (List.toArray us) } } := by
  obtain ⟨t, m, rr⟩ := η
  have h : k (.ref m) ⟨t.put (.list vs) m, Nat.succ m, rr⟩ = true := h
  have kp : ∀ b ob, s.heap.get? b = some ob → (s.heap.push { cls := .type "list", data := .seq (List.toArray us) }).get? b = some ob := fun b o e => Heap.get?_push_of_some _ e
  refine ⟨_, _, φ ++ [(s.heap.objs.size, s.heap.objs.size)], h, ⟨s.heap.objs.size, s.heap.objs.size, ?_, rfl⟩, Step.alloc (no_at_size _) kp rfl rfl rfl, r.alloc z (no_at_size _) kp ⟨rfl, us, PlainL.new _ _, v.st (List.prefix_append _ _) fun b o e _ => kp b o e⟩⟩
  have e : φ.length = m := r.len
  rw [← e]; simp
theorem new_pk {φ : Phi} {η : H} {s : Shared} {p len : Nat} {us : List Value} {k : V → H → Bool} (r : HR G φ η s.heap) (z : G.h₀.objs.size ≤ s.heap.objs.size) (v : VsR φ s.heap (unpk len p) us) (h : allocS (.pk p len) η k = true) :
    Post G φ s k (.ref s.heap.objs.size) { s with heap := s.heap.push { cls := .type "list", data := .seq (List.toArray us) } } := by
  obtain ⟨t, m, rr⟩ := η
  have h : k (.ref m) ⟨t.putS (.pk p len) m, Nat.succ m, rr⟩ = true := h
  have kp : ∀ b ob, s.heap.get? b = some ob → (s.heap.push { cls := .type "list", data := .seq (List.toArray us) }).get? b = some ob := fun b o e => Heap.get?_push_of_some _ e
  have hr := r.alloc z (no_at_size _) kp (o := .list (unpk len p)) (a := s.heap.objs.size) ⟨rfl, us, PlainL.new _ _, v.st (List.prefix_append _ _) fun b o e _ => kp b o e⟩
  refine ⟨_, _, φ ++ [(s.heap.objs.size, s.heap.objs.size)], h, ⟨s.heap.objs.size, s.heap.objs.size, ?_, rfl⟩, Step.alloc (no_at_size _) kp rfl rfl rfl, hr.view (fun i => tget_same (.pk p len) t m i) rfl rfl⟩
  have e : φ.length = m := r.len
  rw [← e]; simp
theorem es_list {m : XL} {es : List Expr} {pos : Pos} (h₁ : LS G f n m es) : ES G f n (xlist m) (.List es pos) := by
  intro A L φ η loc s k hA S h
  refine List_ (wpAny_mono (h₁ pos A L φ η loc s _ hA S h) (fun us s' y => ?_) fun _ _ z => z)
  obtain ⟨vs, ζ, ψ, b, c, d, e⟩ := y
  obtain ⟨b1, b2⟩ := bc_of b
  rw [lenV_eq] at b1
  have b1 : vs.length ≤ 1000000 := Nat.le_of_ble_eq_true b1
  exact wpAny_newObj_type (Post.from d S.hr e (new_list e (Nat.le_of_lt (S.step d e).big) c b2)) (by show (List.toArray us).size ≤ sizeLine; rw [List.size_toArray]; exact size_ok (by rw [c.length]; exact b1))
theorem es_tup {m : XL} {es : List Expr} {j : Nat} {pos : Pos} (h₁ : LS G f n m es) : ES G f n (xtup m) (.Tuple es j pos) := by
  intro A L φ η loc s k hA S h
  refine Tuple_ (wpAny_mono (h₁ pos A L φ η loc s _ hA S h) (fun us s' y => ?_) fun _ _ z => z)
  obtain ⟨vs, ζ, ψ, b, c, d, e⟩ := y
  obtain ⟨b1, b2⟩ := bc_of b
  rw [lenV_eq] at b1
  have b1 : vs.length ≤ 1000000 := Nat.le_of_ble_eq_true b1
  have kp : ∀ b ob, s'.heap.get? b = some ob → (s'.heap.push { cls := .type "tuple", data := .seq (List.toArray us) }).get? b = some ob := fun b o e => Heap.get?_push_of_some _ e
  refine wpAny_newObj_type (Post.from d S.hr e (Post.mk e b2 ?_ kp)) (by show (List.toArray us).size ≤ sizeLine; rw [List.size_toArray]; exact size_ok (by rw [c.length]; exact b1))
  exact ⟨_, us, rfl, IsTup.new _ _, c.st (List.prefix_refl _) fun b o e _ => kp b o e⟩
theorem es_dict {pos : Pos} : ES G f n xdict (.Dict [] [] pos) := by
  intro A L φ η loc s k hA S h
  refine wpAny_Dict_empty ?_
  obtain ⟨t, m, rr⟩ := η
  have h : k (.ref m) ⟨t.put (.dict 0 []) m, Nat.succ m, rr⟩ = true := h
  have kp : ∀ b ob, s.heap.get? b = some ob → (s.heap.push { cls := .type "dict", data := .dict #[] }).get? b = some ob := fun b o e => Heap.get?_push_of_some _ e
  refine ⟨_, _, φ ++ [(s.heap.objs.size, s.heap.objs.size)], h, ⟨s.heap.objs.size, s.heap.objs.size, ?_, rfl⟩, Step.alloc (no_at_size _) kp rfl rfl rfl, S.hr.alloc (Nat.le_of_lt S.big) (no_at_size _) kp ⟨rfl, [], Heap.get?_push_size _ rfl, List.nodup_nil, rfl⟩⟩
  have e : φ.length = m := S.hr.len
  rw [← e]; simp
end
end Kp
end
-- part KpExpr4
section
set_option autoImplicit false
set_option linter.unusedVariables false
namespace Kp
open PySem PySem.W PyProof.Rows PySem.Calls

section
variable {G : Base} {f : Fx} {n : Nat}

-- in, not in: over a list of ints, over a dict by tuples
theorem in_of {A : Around} {φ : Phi} {η : H} {s : Shared} {v w : V} {u t : Value} {k : V → H → Bool} (hu : A.units + 1 < cLine) (r : HR G φ η s.heap) (hv : VR φ s.heap v u) (hw : VR φ s.heap w t)
    (h : asRef w (fun n => objCase (getT η n) (fun xs => asInt v fun i => memInts i xs fun r => k (.bool r) η) (fun _ kvs => asKey v fun q => dfind q kvs (k (.bool false) η) 0 fun _ _ => k (.bool true) η) (fun _ => false)) = true) :
    ∃ b : Bool, k (.bool b) η = true ∧ (∀ Q : Value → Shared → Prop, (∀ tk, Q (.bool b) { s with toks := tk }) → wpAny G.M A (compareOp .In u t) Q NoE s) ∧
      (∀ Q : Value → Shared → Prop, (∀ tk, Q (.bool (!b)) { s with toks := tk }) → wpAny G.M A (compareOp .NotIn u t) Q NoE s) := by
  obtain ⟨j, rfl, h1⟩ := asRef_of h
  obtain ⟨a, d, ej, rfl⟩ := hw
  rw [getT_eq] at h1
  rcases obj_of h1 with ⟨xs, eo, q⟩ | ⟨ep, kvs, eo, q⟩ | ⟨fs, eo, q⟩
  · obtain ⟨i, rfl, q1⟩ := asInt_of q
    obtain ⟨ai, q2⟩ := memInts_of _ _ _ q1
    obtain ⟨t2, rfl⟩ := VR.int hv
    obtain ⟨rfl, us, hl, hu⟩ := r.list ej eo
    exact ⟨_, q2, fun Q z => in_list_ints hl.isList (intsAre_of hu ai) (z s.toks), fun Q z => notin_list_ints hl.isList (intsAre_of hu ai) (z s.toks)⟩
  · obtain ⟨key, rfl, ka, q1⟩ := asKey_of q
    obtain ⟨t2, rfl, hk⟩ := tupKey_of (G := G) hv ka
    obtain ⟨rfl, xs, ho, hn, hd⟩ := r.dict ej eo
    have D := hd.ofH ho hn
    have nm := r.notMod ej
    rcases dfind_of ka hd q1 with ⟨b, c⟩ | ⟨jj, b, v, x, e1, _, hr, q2⟩
    · refine ⟨false, c, fun Q z => wpAny_in_heap (tupleKind_room_in1 hu) hk nm D ?_, fun Q z => wpAny_notIn_heap (tupleKind_room_in1 hu) hk nm D ?_⟩
      · rw [b]; exact z _
      · rw [b]; exact z _
    · refine ⟨true, q2, fun Q z => wpAny_in_heap (tupleKind_room_in1 hu) hk nm D ?_, fun Q z => wpAny_notIn_heap (tupleKind_room_in1 hu) hk nm D ?_⟩
      · rw [atKey_of_get hn e1]; exact z _
      · rw [atKey_of_get hn e1]; exact z _
  · cases q
theorem es_in {m₁ m₂ : XE} {e₁ e₂ : Expr} {pos : Pos} (h₁ : ES G f n m₁ e₁) (h₂ : ES G f n m₂ e₂) (hm : behindInMarks .In e₂ = false := by with_unfolding_all rfl) : ES G f n (xin m₁ m₂) (.Compare e₁ [.In] [e₂] pos) := by
  intro A L φ η loc s k hA S h
  refine wpAny_Compare1 (hm := hm) (h₁.then (β := Unit) hA S h fun u v η1 φ1 s1 hk hv st S1 => ?_)
  refine h₂.then (β := Unit) hA S1 hk fun u2 v2 η2 φ2 s2 hk2 hv2 st2 S2 => ?_
  obtain ⟨b, hb, z, -⟩ := in_of (A := A) (by have := hA.units; omega) S2.hr (hv.st st2.pre (S1.st st2)) hv2 hk2
  exact z _ fun tk => Post.from (st.trans st2 S.hr S1.hr) S.hr S2.hr (Post.tick S2.hr hb rfl)
theorem ts_in {m₁ m₂ : XE} {e₁ e₂ : Expr} {pos : Pos} (h₁ : ES G f n m₁ e₁) (h₂ : ES G f n m₂ e₂) (hm : behindInMarks .In e₂ = false := by with_unfolding_all rfl) : TS G f n (xin m₁ m₂) (.Compare e₁ [.In] [e₂] pos) := by
  intro A L φ η loc s k hA S h
  refine wpAny_isTrue_Compare1 (hm := hm) (h₁.then (β := Unit) hA S h fun u v η1 φ1 s1 hk hv st S1 => ?_)
  refine h₂.then (β := Unit) hA S1 hk fun u2 v2 η2 φ2 s2 hk2 hv2 st2 S2 => ?_
  obtain ⟨b, hb, z, -⟩ := in_of (A := A) (k := fun v h => truthy v fun b => k b h) (by have := hA.units; omega) S2.hr (hv.st st2.pre (S1.st st2)) hv2 hk2
  exact z _ fun tk => wpAny_truthy_bool (PostB.from (st.trans st2 S.hr S1.hr) S.hr S2.hr (PostB.tick S2.hr hb))
theorem es_notin {m₁ m₂ : XE} {e₁ e₂ : Expr} {pos : Pos} (h₁ : ES G f n m₁ e₁) (h₂ : ES G f n m₂ e₂) (hm : behindInMarks .NotIn e₂ = false := by with_unfolding_all rfl) : ES G f n (xnotin m₁ m₂) (.Compare e₁ [.NotIn] [e₂] pos) := by
  intro A L φ η loc s k hA S h
  refine wpAny_Compare1 (hm := hm) (h₁.then (β := Unit) hA S h fun u v η1 φ1 s1 hk hv st S1 => ?_)
  refine h₂.then (β := Unit) hA S1 hk fun u2 v2 η2 φ2 s2 hk2 hv2 st2 S2 => ?_
  obtain ⟨b, hb, -, z⟩ := in_of (A := A) (k := fun v h => truthy v fun b => k (.bool (bnt b)) h) (by have := hA.units; omega) S2.hr (hv.st st2.pre (S1.st st2)) hv2 hk2
  have hb : k (.bool (bnt b)) η2 = true := hb
  rw [bnt_eq] at hb
  exact z _ fun tk => Post.from (st.trans st2 S.hr S1.hr) S.hr S2.hr (Post.tick S2.hr hb rfl)
theorem ts_notin {m₁ m₂ : XE} {e₁ e₂ : Expr} {pos : Pos} (h₁ : ES G f n m₁ e₁) (h₂ : ES G f n m₂ e₂) (hm : behindInMarks .NotIn e₂ = false := by with_unfolding_all rfl) : TS G f n (xnotin m₁ m₂) (.Compare e₁ [.NotIn] [e₂] pos) := by
  intro A L φ η loc s k hA S h
  refine wpAny_isTrue_Compare1 (hm := hm) (h₁.then (β := Unit) hA S h fun u v η1 φ1 s1 hk hv st S1 => ?_)
  refine h₂.then (β := Unit) hA S1 hk fun u2 v2 η2 φ2 s2 hk2 hv2 st2 S2 => ?_
  obtain ⟨b, hb, -, z⟩ := in_of (A := A) (k := fun v h => truthy v fun b => truthy (.bool (bnt b)) fun b => k b h) (by have := hA.units; omega) S2.hr (hv.st st2.pre (S1.st st2)) hv2 hk2
  have hb : k (bnt b) η2 = true := hb
  rw [bnt_eq] at hb
  exact z _ fun tk => wpAny_truthy_bool (PostB.from (st.trans st2 S.hr S1.hr) S.hr S2.hr (PostB.tick S2.hr hb))

-- == []
theorem nil_of {A : Around} {φ : Phi} {η : H} {s : Shared} {v : V} {u : Value} {b : Addr} {k : V → H → Bool} (hu : A.units < cLine) (r : HR G φ η s.heap) (hv : VR φ s.heap v u) (hb : PlainL s.heap b (List.toArray []))
    (h : asList v η (fun _ xs => @List.rec V (fun _ => Bool) (k (.bool true) η) (fun _ _ _ => k (.bool false) η) xs) = true) :
    ∃ c : Bool, k (.bool c) η = true ∧ (∀ Q : Value → Shared → Prop, Q (.bool c) s → wpAny G.M A (compareOp .Eq u (.ref b)) Q NoE s) := by
  obtain ⟨j, xs, rfl, eo, h1⟩ := asList_of h
  obtain ⟨a, d, ej, rfl⟩ := hv
  obtain ⟨rfl, us, hl, hu'⟩ := r.list ej eo
  have hlen := hu'.length
  cases xs with
  | nil =>
    have e : us = [] := List.length_eq_zero_iff.mp hlen
    subst e
    refine ⟨true, h1, fun Q q => PySem.SeqAt.eq_listAt (e := fun _ => true) hl.isList hb.isList rfl hu (fun j h1 h2 => absurd h1 (by simp)) ?_⟩
    simpa using q
  | cons x xs =>
    refine ⟨false, h1, fun Q q => PySem.SeqAt.eq_list_lengthsAt hl.isList hb.isList ?_ hu q⟩
    rw [List.size_toArray, List.size_toArray, hlen]; rfl
theorem es_isNil {m : XE} {e : Expr} {p pos : Pos} (h₁ : ES G f n m e) : ES G f n (xisNil m) (.Compare e [.Eq] [.List [] p] pos) := by
  intro A L φ η loc s k hA S h
  refine wpAny_Compare1 (hm := by with_unfolding_all rfl) (h₁.then (β := Unit) hA S h fun u v η1 φ1 s1 hk hv st S1 => ?_)
  refine List_ (args_nil (wpAny_newObj_type ?_ (by show (0 : Nat) ≤ sizeLine; exact Nat.zero_le _)))
  have kp : ∀ b ob, s1.heap.get? b = some ob → (s1.heap.push { cls := .type "list", data := .seq (List.toArray []) }).get? b = some ob := fun b o e => Heap.get?_push_of_some _ e
  have st2 : Step φ1 φ1 s1 { s1 with heap := s1.heap.push { cls := .type "list", data := .seq (List.toArray []) } } := Step.same kp rfl rfl rfl
  have r2 := S1.hr.grow kp
  obtain ⟨c, hc, z⟩ := nil_of (s := { s1 with heap := s1.heap.push { cls := .type "list", data := .seq (List.toArray []) } }) (A := A) (by have := hA.units; omega) r2 (hv.st st2.pre (S1.st st2)) (PlainL.new _ _) hk
  exact z _ (Post.from (st.trans st2 S.hr S1.hr) S.hr r2 ⟨_, _, _, hc, rfl, Step.refl _ _, r2⟩)
theorem ts_isNil {m : XE} {e : Expr} {p pos : Pos} (h₁ : ES G f n m e) : TS G f n (xisNil m) (.Compare e [.Eq] [.List [] p] pos) := by
  intro A L φ η loc s k hA S h
  refine wpAny_isTrue_Compare1 (hm := by with_unfolding_all rfl) (h₁.then (β := Unit) hA S h fun u v η1 φ1 s1 hk hv st S1 => ?_)
  refine List_ (args_nil (wpAny_newObj_type ?_ (by show (0 : Nat) ≤ sizeLine; exact Nat.zero_le _)))
  have kp : ∀ b ob, s1.heap.get? b = some ob → (s1.heap.push { cls := .type "list", data := .seq (List.toArray []) }).get? b = some ob := fun b o e => Heap.get?_push_of_some _ e
  have st2 : Step φ1 φ1 s1 { s1 with heap := s1.heap.push { cls := .type "list", data := .seq (List.toArray []) } } := Step.same kp rfl rfl rfl
  have r2 := S1.hr.grow kp
  obtain ⟨c, hc, z⟩ := nil_of (s := { s1 with heap := s1.heap.push { cls := .type "list", data := .seq (List.toArray []) } }) (A := A) (k := fun v h => truthy v fun b => k b h) (by have := hA.units; omega) r2 (hv.st st2.pre (S1.st st2)) (PlainL.new _ _) hk
  exact z _ (wpAny_truthy_bool (PostB.from (st.trans st2 S.hr S1.hr) S.hr r2 ⟨_, _, hc, Step.refl _ _, r2⟩))

-- append
theorem es_append {m₁ m₂ : XE} {o e : Expr} {apos pos : Pos} (h₁ : ES G f n m₁ o) (h₂ : ES G f n m₂ e)
    (hline : (apos.endLine == pos.line) = true)
    (hbase : ∀ env, attributeBase o "append" env (eval o env) = eval o env := by intro _; with_unfolding_all rfl)
    (hfew : ∀ env, ((backTo pos (starEach [e] env)).all (fun x => !x.1) && (backToKw pos (keywordEach [] env)).all (fun x => x.1.isSome)
      && decide (([e] : List Expr).length + ([] : List Keyword).length + (if ([] : List Keyword).isEmpty then 0 else 1) < 30)) = true := by intro _; with_unfolding_all rfl)
    (htrees : ∀ env, backTo pos (starEach [e] env) = [(false, eval e env)] := by intro _; with_unfolding_all rfl) :
    ES G f n (xappend m₁ m₂) (.Call (.Attribute o "append" apos) [e] [] pos) := by
  intro A L φ η loc s k hA S h
  refine wpAny_Call_append (hbase _) (hfew _) hline (htrees _) (h₁.then (β := Unit) hA S h fun u v η1 φ1 s1 hk hv st S1 => ?_)
  obtain ⟨j, xs, rfl, eo, hk1⟩ := asList_of hk
  obtain ⟨a, d, ej, rfl⟩ := hv
  obtain ⟨rfl, us, hl, hu⟩ := S1.hr.list ej eo
  refine ⟨_, _, rfl, hl, ?_⟩
  refine h₂.then (β := Unit) hA S1 hk1 fun u2 w η2 φ2 s2 hk2 hv2 st2 S2 => ?_
  obtain ⟨j', xs', e1, eo', hk3⟩ := asList_of hk2
  cases e1
  have ej' := pre_get st2.pre ej
  obtain ⟨_, us', hl', hu'⟩ := S2.hr.list ej' eo'
  obtain ⟨hb, hk4⟩ := bc_of hk3
  have hb : lenV xs' ≤ 1000000 := Nat.le_of_ble_eq_true hb
  rw [lenV_eq] at hb
  rw [snocK_eq] at hk4
  refine list_append_plainL hl' (fun h' hp hs => ?_) (by rw [List.size_toArray, hu'.length, sizeLine_eq]; omega)
  obtain ⟨t, m, rr⟩ := η2
  obtain ⟨hro, hk5⟩ : Nat.ble rr j = true ∧ k .none ⟨t.put (.list (xs' ++ [w])) j, m, rr⟩ = true := bc_of hk4
  have hro : rr ≤ j := Nat.le_of_ble_eq_true hro
  have hrr : rr = G.ro := S2.hr.ror
  have st3 : Step φ2 φ2 s2 { s2 with heap := h' } := Step.turn (List.mem_of_getElem? ej') (fun b q => hs.2 b q) rfl rfl rfl
  have sto : St s2.heap h' := st3.st S2.hr
  have r3 : HR G φ2 ⟨t.put (.list (xs' ++ [w])) j, m, rr⟩ h' := by
    refine S2.hr.turn ej' (fun b q => hs.2 b q) (hrr ▸ hro) ⟨rfl, us' ++ [u2], ?_, ?_⟩
    · have : (us' ++ [u2]).toArray = us'.toArray.push u2 := by simp
      rw [this]; exact hp
    · exact (hu'.st (List.prefix_refl _) sto).append (VsR.cons (hv2.st (List.prefix_refl _) sto) rfl)
  exact ⟨.none, _, φ2, hk5, rfl, (st.trans st2 S.hr S1.hr).trans st3 S.hr S2.hr, r3⟩
end
end Kp
end
-- part KpExpr5
section
set_option autoImplicit false
set_option linter.unusedVariables false
namespace Kp
open PySem PySem.W PyProof.Rows PySem.Calls

theorem join_rep (u : Value) (acc : Array Value) : ∀ k : Nat, List.foldl (fun x1 x2 => x1 ++ x2) acc (List.replicate k #[u]) = acc ++ (List.replicate k u).toArray
  | 0 => by simp
  | k + 1 => by
    rw [List.replicate_succ, List.foldl_cons, join_rep u _ k, List.replicate_succ]
    apply Array.ext'
    simp

section
variable {G : Base} {f : Fx} {n : Nat}

theorem mul_one {A : Around} {s : Shared} {l : Addr} {u : Value} {k : Nat} {x : Int} {t : Tok} {Q : Value → Shared → Prop}
    (hl : s.heap.get? l = some { cls := .type "list", data := .seq #[u] k }) (h0 : 0 ≤ x) (hx : x ≤ 1000000)
    (h : Q (.ref s.heap.objs.size) { s with heap := s.heap.push { cls := .type "list", data := .seq (List.replicate x.toNat u).toArray } }) :
    wpAny G.M A (binaryOp .Mult (.ref l) (.int x t)) Q NoE s := by
  have e : List.foldl (fun x1 x2 => x1 ++ x2) #[] (List.replicate (if (#[u] : Array Value).isEmpty = true then 0 else x.toNat) #[u]) = (List.replicate x.toNat u).toArray := by
    have : (#[u] : Array Value).isEmpty = false := rfl
    rw [this, if_neg (by decide), join_rep]
    simp
  refine wpAny_binaryOp_repeat_ref (T := "list") (U := "int") (by decide) ⟨_, hl, rfl⟩ (fun s' => typeIs_int s' _ t) noFill_list_mul PySem.F.fills_int_mul PySem.F.slot_int_rmul repeat_list PySem.F.slot_int_index.lookup
    (call_meets PySem.F.slot_int_rmul (typeIs_int s _ t) PySem.F.entry_int_rmul (PySem.F.args_int_rmul_2 _ _) (int___rmul___int_list _ t l #[u] k)
      ⟨hl, rfl, ⟨_, hl, rfl⟩, call_meets PySem.F.slot_list_mul ⟨_, hl, rfl⟩ PySem.F.entry_list_mul (PySem.F.args_list_mul_2 _ _)
        (AutoListH.list___mul___list_int_3 l #[u] k _ t (by simp [Builtin.List.listFitsIndex]; omega) (by
          have q : (#[u] : Array Value).size = 1 := rfl
          rw [q]
          omega) (by
          have q : (#[u] : Array Value).size = 1 := rfl
          unfold Builtin.List.listTooLong sizeLine
          rw [q]
          simp
          omega))
        ⟨hl, ?_⟩⟩)
  have e' := e
  simp only [e']
  exact h

theorem repK_rep (v : V) (j : Nat) (k : List V → Bool) : repK v j [] k = k (List.replicate j v) := by rw [repK_eq]; simp
theorem es_rep {m₁ m₂ : XE} {e₁ e₂ : Expr} {p pos : Pos} (h₁ : ES G f n m₁ e₁) (h₂ : ES G f n m₂ e₂) (he : ∀ env, starEach [e₁] env = [(false, eval e₁ env)] := by intro _; rfl) : ES G f n (xrep m₁ m₂) (.BinOp (.List [e₁] p) .Mult e₂ pos) := by
  intro A L φ η loc s k hA S h
  refine wpAny_BinOp (List_ ?_)
  rw [he]
  refine spliced_cons (h₁.then (β := Unit) hA S h fun u v η1 φ1 s1 hk hv st S1 => spliced_nil (wpAny_newObj_type ?_ (by show (1 : Nat) ≤ sizeLine; rw [sizeLine_eq]; omega)))
  have kp : ∀ b ob, s1.heap.get? b = some ob → (s1.heap.push { cls := .type "list", data := .seq (List.toArray [u]) }).get? b = some ob := fun b o e => Heap.get?_push_of_some _ e
  have st2 : Step φ1 φ1 s1 { s1 with heap := s1.heap.push { cls := .type "list", data := .seq (List.toArray [u]) } } := Step.same kp rfl rfl rfl
  have r2 := S1.hr.grow kp
  have S2 : SR G f φ1 η1 L loc { s1 with heap := s1.heap.push { cls := .type "list", data := .seq (List.toArray [u]) } } := S1.step st2 r2
  refine h₂.then (β := Unit) hA S2 hk fun u2 v2 η3 φ3 s3 hk3 hv3 st3 S3 => ?_
  obtain ⟨i, rfl, hk4⟩ := asInt_of hk3
  obtain ⟨j, j', rfl, e2, hk5⟩ := nat2_of hk4
  cases e2
  obtain ⟨hb, hk6⟩ := bc_of hk5
  have hb : j ≤ 1000000 := Nat.le_of_ble_eq_true hb
  obtain ⟨t, rfl⟩ := VR.int hv3
  have hl : s3.heap.get? s1.heap.objs.size = some { cls := .type "list", data := .seq #[u] } := by
    refine st3.ev _ _ (Heap.get?_push_size _ rfl) fun p hp q => ?_
    have := S1.hr.lt hp
    rw [q] at this; exact absurd this (Nat.lt_irrefl _)
  have st4 := (st.trans st2 S.hr S1.hr).trans st3 S.hr S2.hr
  have hv' := (hv.st st2.pre (S1.st st2)).st st3.pre (S2.st st3)
  refine mul_one (k := 0) hl (by simp) (by show (j : Int) ≤ _; omega) (Post.from st4 S.hr S3.hr ?_)
  cases iz : isZero v with
  | false =>
    rw [iz] at hk6
    have hk6 : repK v j [] (fun xs => alloc (.list xs) η3 k) = true := hk6
    rw [repK_rep] at hk6
    exact new_list S3.hr (Nat.le_of_lt S3.big) (VsR.rep hv' j) hk6
  | true =>
    rw [iz] at hk6
    have hk6 : allocS (.pk 0 j) η3 k = true := hk6
    have ev : v = .int (.ofNat 0) := by
      cases v with
      | int i =>
        have iz : ieq i (.ofNat 0) = true := iz
        rw [ieq_eq] at iz
        rw [of_decide_eq_true iz]
      | _ => cases iz
    subst ev
    refine new_pk S3.hr (Nat.le_of_lt S3.big) ?_ hk6
    rw [unpk_zero]
    exact VsR.rep hv' j

-- the class
theorem asNone_of {v : V} {k : Bool} (h : asNone v k = true) : v = .none ∧ k = true := by cases v <;> first | exact ⟨rfl, h⟩ | cases h
def unb14 : List V := [.unb, .unb, .unb, .unb, .unb, .unb, .unb, .unb, .unb, .unb, .unb, .unb, .unb, .unb]
theorem unb14_get : ∀ i, getV unb14 i = .unb := by
  intro i
  rw [getV_eq]
  by_cases h : i < 14
  · have : ∀ j, j < 14 → unb14[j]?.getD .unb = .unb := by
      intro j hj
      match j, hj with
      | 0, _ => rfl | 1, _ => rfl | 2, _ => rfl | 3, _ => rfl | 4, _ => rfl | 5, _ => rfl | 6, _ => rfl
      | 7, _ => rfl | 8, _ => rfl | 9, _ => rfl | 10, _ => rfl | 11, _ => rfl | 12, _ => rfl | 13, _ => rfl
    exact this i h
  · rw [List.getElem?_eq_none (by show 14 ≤ i; omega)]; rfl
theorem es_new {init : Fn} {x : Str} {m : XE} {r : XL} {e : Expr} {es : List Expr} {p pos : Pos} (ok : f.Ok) (hx : f.cs.names.lookup x = some .globalImplicit) (hd : (x == ("__debug__" : Str)) = false) (hm : G.mg x = some (.ref G.C)) (hkeep : keepIn G.K (.ref G.C) = true) (hf : FS G n init G.fI) (h₁ : LS G f (n + 1) (econs m r) (e :: es))
    (he : ∀ env, starEach (e :: es) env = (false, eval e env) :: starEach es env := by intro _; rfl) (hp : ∀ env, (backTo pos (starEach es env)).any (·.1) = false := by intro _; rfl) :
    ES G f (n + 1) (xcall (newInst init unb14) (econs m r)) (.Call (.Name x p) (e :: es) [] pos) := by
  intro A L φ η loc s k hA S h
  refine wpAny_Call_NameR (Name_function_global (env := f.env L) ok.kind hx (loadGlobal_global (env := f.env L) (G.g.keeps S.hr.keep) hm ?_) hd)
  refine callWith_K (h₀ := G.h₀) G.X hkeep (he := he _) (hplain := hp _) ?_
  refine wpAny_mono (h₁ pos A L φ η loc s _ hA S h) (fun us s' y => ?_) fun _ _ z => z
  obtain ⟨vs, ζ, ψ, b, c, d, e'⟩ := y
  have X' : G.K.In s'.heap := fun b o q => e'.keep b o (G.X b o q)
  refine ⟨X', wpAny_call ?_⟩
  have S' := S.step d e'
  have big := Nat.le_of_lt S'.big
  obtain ⟨hh, g, dr, tk, os⟩ := s'
  obtain ⟨t, mm, rr⟩ := ζ
  have b : init (.ref mm :: vs) ⟨t.put (.inst unb14) mm, Nat.succ mm, rr⟩ (fun r h => asNone r (k (.ref mm) h)) = true := b
  have kp : ∀ b ob, hh.get? b = some ob → ((hh.push emptyDict).push (instObj G.C hh.objs.size)).get? b = some ob := fun b o q => Heap.get?_push_of_some _ (Heap.get?_push_of_some _ q)
  have hi : ((hh.push emptyDict).push (instObj G.C hh.objs.size)).get? (hh.objs.size + 1) = some (instObj G.C hh.objs.size) := by
    have : (hh.push emptyDict).objs.size = hh.objs.size + 1 := Heap.size_push ..
    rw [← this]; exact Heap.get?_push_size _ rfl
  have hdd : ((hh.push emptyDict).push (instObj G.C hh.objs.size)).get? hh.objs.size = some emptyDict := Heap.get?_push_of_some _ (Heap.get?_push_size _ rfl)
  have st2 : Step ψ (ψ ++ [(hh.objs.size + 1, hh.objs.size)]) ⟨hh, g, dr, tk, os⟩ ⟨(hh.push emptyDict).push (instObj G.C hh.objs.size), g, dr, tk, os⟩ := Step.alloc (no_at_size _) kp rfl rfl rfl
  have r2 : HR G (ψ ++ [(hh.objs.size + 1, hh.objs.size)]) ⟨t.put (.inst unb14) mm, Nat.succ mm, rr⟩ ((hh.push emptyDict).push (instObj G.C hh.objs.size)) :=
    e'.alloc big (no_at_size _) kp ⟨hi, [], 0, hdd, fun i nm _ q => absurd (unb14_get i) q, (fun _ z => by cases z), Nat.zero_le _, rfl⟩
  have e : ψ.length = mm := e'.len
  have hv : VR (ψ ++ [(hh.objs.size + 1, hh.objs.size)]) ((hh.push emptyDict).push (instObj G.C hh.objs.size)) (.ref mm) (.ref (hh.objs.size + 1)) := ⟨_, hh.objs.size, by rw [← e]; simp, rfl⟩
  have c2 := c.st st2.pre (st2.st e')
  have hA2 : Room (A.under (.builtin "type.__call__" ⟨.ref G.C :: us, []⟩)) n := ⟨by
    have := hA.depth
    show A.depth + 1 + n < _; omega, by
    have := hA.units
    show A.units + 1 + 8 * n + 16 < _; omega, hA.handled⟩
  refine make_core (makes_of X' G.cmake) (looks_findIn X' G.cinit) (fun self => bind_fn X' self (beq_iff_eq.mp G.cfn)) (.inl rfl) ?_
  refine codeAny_mono (hf _ _ _ ⟨(hh.push emptyDict).push (instObj G.C hh.objs.size), g, dr, tk, os⟩ _ (.ref (hh.objs.size + 1) :: us) _ hA2 r2 ?_ (VsR.cons hv c2) b) fun r s2 y => ?_
  · show _ ≤ ((hh.push emptyDict).push (instObj G.C hh.objs.size)).objs.size
    rw [Heap.size_push, Heap.size_push]
    exact Nat.le_trans big (Nat.le_trans (Nat.le_succ _) (Nat.le_succ _))
  · rcases r with e | (u | _ | _ | _) <;> first | exact y.elim | skip
    obtain ⟨v, η3, φ3, q1, q2, q3, q4⟩ := y
    obtain ⟨rfl, q5⟩ := asNone_of q1
    refine ⟨q2, ?_⟩
    exact ⟨.ref mm, η3, φ3, q5, hv.st q3.pre (q3.st r2), (d.trans st2 S.hr e').trans q3 S.hr r2, q4⟩
end
end Kp
end
-- part KpStmt
section
set_option autoImplicit false
set_option linter.unusedVariables false
namespace Kp
open PySem PySem.W PyProof.Rows PySem.Calls

section
variable {G : Base} {f : Fx} {n : Nat}

theorem SR.alive {φ : Phi} {η : H} {L : Addr} {loc : Loc} {s : Shared} (S : SR G f φ η L loc s) : ∃ o es ep, s.heap.get? L = some o ∧ o.data = .dict es ep := by
  obtain ⟨m, ⟨o, es, ep, ho, hd, -⟩, -⟩ := S.fr
  exact ⟨o, es, ep, ho, hd⟩
theorem StepL.st {φ φ' : Phi} {η : H} {L : Addr} {loc : Loc} {s s' : Shared} (x : StepL L φ φ' s s') (S : SR G f φ η L loc s) : St s.heap s'.heap := by
  intro b o e i
  refine x.ev b o e (S.hr.notIm e i) fun q => ?_
  subst q
  obtain ⟨o', es, ep, ho, hd⟩ := S.alive
  rw [e] at ho
  cases ho
  rcases i with ⟨-, _, _, i⟩ | ⟨-, _, i⟩ | i <;> rw [hd] at i <;> cases i
theorem StepL.trans {φ φ' φ'' : Phi} {η η' : H} {L : Addr} {loc loc' : Loc} {s s' s'' : Shared} (x : StepL L φ φ' s s') (y : StepL L φ' φ'' s' s'') (S : SR G f φ η L loc s) (S' : SR G f φ' η' L loc' s') : StepL L φ φ'' s s'' := by
  refine ⟨x.pre.trans y.pre, fun b o e n l => ?_, fun p hp => ?_, y.gens.trans x.gens, y.drawn.trans x.drawn, y.os.trans x.os⟩
  · refine y.ev b o (x.ev b o e n l) (fun p hp q => ?_) l
    rcases x.fresh p hp with h | h
    · exact n p h q
    · rw [q, e] at h; cases h
  · rcases y.fresh p hp with h | h
    · exact x.fresh p h
    · cases e : s.heap.get? p.2 with
      | none => exact .inr rfl
      | some o =>
        by_cases l : p.2 = L
        · obtain ⟨o', _, _, ho, _⟩ := S'.alive
          rw [l, ho] at h; cases h
        · by_cases n : ∀ q ∈ φ, q.2 ≠ p.2
          · rw [x.ev _ _ e n l] at h; cases h
          · simp only [ne_eq, Classical.not_forall, Classical.not_not] at n
            obtain ⟨q, hq, he⟩ := n
            obtain ⟨ob, ho, -⟩ := S'.hr.alive (x.pre.subset hq)
            rw [he, h] at ho; cases ho

def PostS (G : Base) (f : Fx) (L : Addr) (φ : Phi) (s : Shared) (kn : KN) (kr : KR) (kb kc : KN) (fl : Flow) (s' : Shared) : Prop :=
  ∃ φ' η', StepL L φ φ' s s' ∧ match fl with
    | .next => ∃ loc', SR G f φ' η' L loc' s' ∧ kn loc' η' = true
    | .ret u => ∃ v, HR G φ' η' s'.heap ∧ VR φ' s'.heap v u ∧ kr v η' = true
    | .brk => ∃ loc', SR G f φ' η' L loc' s' ∧ kb loc' η' = true
    | .cont => ∃ loc', SR G f φ' η' L loc' s' ∧ kc loc' η' = true
def SS (G : Base) (f : Fx) (n : Nat) (m : XS) (st : Stmt) : Prop :=
  ∀ A L φ η loc s kn kr kb kc, Room A n → SR G f φ η L loc s → m loc η kn kr kb kc = true → wpAny G.M A (exec st (f.env L)) (PostS G f L φ s kn kr kb kc) NoE s
def BS (G : Base) (f : Fx) (n : Nat) (m : XS) (sts : List Stmt) : Prop :=
  ∀ A L φ η loc s kn kr kb kc, Room A n → SR G f φ η L loc s → m loc η kn kr kb kc = true → wpAny G.M A (execs sts (f.env L)) (PostS G f L φ s kn kr kb kc) NoE s
theorem PostS.from {φ φ' : Phi} {η η' : H} {L : Addr} {loc loc' : Loc} {s s' s'' : Shared} {kn : KN} {kr : KR} {kb kc : KN} {fl : Flow} (x : StepL L φ φ' s s') (S : SR G f φ η L loc s) (S' : SR G f φ' η' L loc' s') (p : PostS G f L φ' s' kn kr kb kc fl s'') : PostS G f L φ s kn kr kb kc fl s'' := by
  obtain ⟨ψ, ζ, y, z⟩ := p
  exact ⟨ψ, ζ, x.trans y S S', z⟩

theorem bs_nil : BS G f n spass [] := fun A L φ η loc s kn kr kb kc hA S h => wpAny_execs_nil ⟨φ, η, StepL.refl _ _, loc, S, h⟩
theorem bs_cons {m₁ m₂ : XS} {st : Stmt} {r : List Stmt} (h₁ : SS G f n m₁ st) (h₂ : BS G f n m₂ r) : BS G f n (sseq m₁ m₂) (st :: r) := by
  intro A L φ η loc s kn kr kb kc hA S h
  refine wpAny_execs_cons (wpAny_mono (h₁ A L φ η loc s _ kr kb kc hA S h) (fun fl s' x => ?_) fun _ _ z => z)
  obtain ⟨φ', η', st1, y⟩ := x
  cases fl with
  | next =>
    obtain ⟨loc', S', k⟩ := y
    exact wpAny_mono (h₂ A L φ' η' loc' s' kn kr kb kc hA S' k) (fun fl s'' z => PostS.from st1 S S' z) fun _ _ z => z
  | ret u => exact ⟨φ', η', st1, y⟩
  | brk => exact ⟨φ', η', st1, y⟩
  | cont => exact ⟨φ', η', st1, y⟩
theorem bs_one {m : XS} {st : Stmt} (h₁ : SS G f n m st) : BS G f n m [st] := by
  intro A L φ η loc s kn kr kb kc hA S h
  refine wpAny_execs_cons (wpAny_mono (h₁ A L φ η loc s kn kr kb kc hA S h) (fun fl s' x => ?_) fun _ _ z => z)
  cases fl with
  | next => exact wpAny_execs_nil x
  | ret u => exact x
  | brk => exact x
  | cont => exact x

-- one expression, then the rest of a statement
theorem ES.thenS {m : XE} {e : Expr} (x : ES G f n m e) {A : Around} {L : Addr} {φ : Phi} {η : H} {loc : Loc} {s : Shared} {k : V → H → Bool} (hA : Room A n)
    (S : SR G f φ η L loc s) (h : m loc η k = true) {Q : Value → Shared → Prop}
    (nx : ∀ u v η' φ' s', k v η' = true → VR φ' s'.heap v u → Step φ φ' s s' → SR G f φ' η' L loc s' → Q u s') : wpAny G.M A (eval e (f.env L)) Q NoE s := x.then (β := Unit) hA S h nx

theorem setV_ge (v : V) : ∀ (xs : List V) (i : Nat), xs.length ≤ i → setV v xs i = xs
  | [], _, _ => rfl
  | x :: xs, 0, h => by simp at h
  | x :: xs, i + 1, h => by
    have : setV v (x :: xs) (i + 1) = x :: setV v xs i := rfl
    rw [this, setV_ge v xs i (by simpa using h)]
theorem getV_ge : ∀ (xs : List V) (i : Nat), xs.length ≤ i → getV xs i = .unb := fun xs i h => by rw [getV_eq, List.getElem?_eq_none h]; rfl

theorem SR.store {φ : Phi} {η : H} {L : Addr} {loc : Loc} {s : Shared} {i : Nat} {nm : Str} {v : V} {u : Value} {h' : Heap} {m : Str → Option Value} {tk : Nat} (ok : f.Ok) (S : SR G f φ η L loc s) (hn : f.names[i]? = some nm) (hv : VR φ s.heap v u)
    (hm : ∀ i nm, f.names[i]? = some nm → getV loc i ≠ .unb → ∃ u, m nm = some u ∧ VR φ s.heap (getV loc i) u)
    (ns : h'.Ns L (fun x => if x = nm then some u else m x)) (hs : Heap.SameBut L s.heap h') : SR G f φ η L (setV v loc i) { s with heap := h', toks := tk } ∧ StepL L φ φ s { s with heap := h', toks := tk } := by
  have stp : StepL L φ φ s { s with heap := h', toks := tk } := ⟨List.prefix_refl _, fun b o e _ l => (hs.2 b l).trans e, fun _ h => .inl h, rfl, rfl, rfl⟩
  have sto : St s.heap h' := stp.st S
  have r : HR G φ η h' := by
    refine ⟨fun b o e => ?_, S.hr.len, fun j a d e => ?_, S.hr.above, S.hr.nd, fun b o e => (hs.2 b fun q => S.outF o (q ▸ e)).trans (S.hr.frz b o e), S.hr.aboveF, S.hr.ror⟩
    · have : b ≠ L := fun q => by
        subst q
        exact absurd (Heap.lt_size e) (Nat.not_lt.mpr S.above)
      exact (hs.2 b this).trans (S.hr.keep b o e)
    · exact (S.hr.obj j a d e).st (List.prefix_refl _) sto (hs.2 d (S.out (a, d) (List.mem_of_getElem? e)))
  refine ⟨⟨r, S.above, S.out, S.outF, _, ns, fun j nm' a b => ?_⟩, stp⟩
  by_cases q : nm' = nm
  · subst q
    have hij : i = j := (List.getElem?_inj (List.getElem?_eq_some_iff.mp hn).1 ok.nd).mp (hn.trans a.symm)
    subst hij
    by_cases z : i < loc.length
    · have ee : getV (setV v loc i) i = v := by rw [getV_set v loc i i z, if_pos rfl]
      rw [ee] at b ⊢
      exact ⟨u, by simp, hv.st (List.prefix_refl _) sto⟩
    · rw [setV_ge v loc i (by omega), getV_ge loc i (by omega)] at b
      exact absurd rfl b
  · have hij : i ≠ j := by
      rintro rfl
      rw [hn] at a
      exact q (Option.some.inj a).symm
    have e : getV (setV v loc i) j = getV loc j := by
      by_cases z : i < loc.length
      · rw [getV_set v loc i j z, if_neg hij]
      · rw [setV_ge v loc i (by omega)]
    rw [e] at b ⊢
    obtain ⟨w, c, d⟩ := hm j nm' a b
    exact ⟨w, by simp only [if_neg q]; exact c, d.st (List.prefix_refl _) sto⟩
theorem store_wp {A : Around} {φ : Phi} {η : H} {L : Addr} {loc : Loc} {s : Shared} {i : Nat} {nm : Str} {v : V} {u : Value} {Q : Unit → Shared → Prop} (ok : f.Ok) (S : SR G f φ η L loc s) (hn : f.names[i]? = some nm) (hv : VR φ s.heap v u)
    (h : ∀ s', SR G f φ η L (setV v loc i) s' → StepL L φ φ s s' → Q () s') : wpAny G.M A (storeName (f.env L) nm u) Q NoE s := by
  obtain ⟨m, ns, hm⟩ := S.fr
  refine wpAny_storeName_local (ok.loc _ (List.mem_of_getElem? hn)) ns (fun h' ns' hs => ?_) (by
    show (f.cs.kind == .class || (f.cs.kind == .module && L != mainGlobals)) = false
    rw [ok.kind]; rfl)
  obtain ⟨a, b⟩ := S.store (tk := s.toks + 1) ok hn hv hm ns' hs
  exact h _ a b

theorem ss_set {i : Nat} {nm : Str} {m : XE} {e : Expr} {p pos : Pos} (ok : f.Ok) (hn : f.names[i]? = some nm) (h₁ : ES G f n m e) (hs : ∀ env, swapsWith e (some (.Name nm p)) pos.line env = pure false := by intro _; rfl) : SS G f n (sset i m) (.Assign [.Name nm p] e pos) := by
  intro A L φ η loc s kn kr kb kc hA S h
  refine wpAny_Assign_Name (hs := hs _) (h₁.thenS hA S h fun u v η1 φ1 s1 hk hv st S1 => ?_)
  rw [setK_eq] at hk
  exact store_wp ok S1 hn hv fun s2 S2 st2 => ⟨φ1, η1, st.l.trans st2 S S1, _, S2, hk⟩
theorem ss_aug {i : Nat} {nm : Str} {o : Op} {op : Operator} {m : XE} {e : Expr} {p pos : Pos} (ok : f.Ok) (hn : f.names[i]? = some nm) (ho : IopOk G o op) (h₁ : ES G f n m e) : SS G f n (saug i o m) (.AugAssign (.Name nm p) op e pos) := by
  intro A L φ η loc s kn kr kb kc hA S h
  obtain ⟨hu, hk⟩ := known_of h
  obtain ⟨mm, ns, hm⟩ := S.fr
  obtain ⟨u0, e0, hv0⟩ := hm i nm hn hu
  refine wpAny_AugAssign_Name (wpAny_loadName_local ok.kind (ok.loc _ (List.mem_of_getElem? hn)) ns e0 ?_)
  refine h₁.thenS hA S hk fun u v η1 φ1 s1 hk1 hv st S1 => ?_
  obtain ⟨a, ea, hk2⟩ := asInt_of hk1
  obtain ⟨b, rfl, hk3⟩ := asInt_of hk2
  have hv0' := hv0.st st.pre (S.st st)
  rw [ea] at hv0'
  obtain ⟨t0, rfl⟩ := VR.int hv0'
  obtain ⟨t, rfl⟩ := VR.int hv
  refine ho _ _ _ _ _ _ _ _ hk3 fun c tk tk' hc => ?_
  rw [setK_eq] at hc
  have S1' : SR G f φ1 η1 L loc { s1 with toks := tk' } := S1.step (Step.same (fun _ _ e => e) rfl rfl rfl) S1.hr
  refine store_wp (v := .int c) ok S1' hn ⟨_, rfl⟩ fun s2 S2 st2 => ?_
  have st0 : Step φ1 φ1 s1 { s1 with toks := tk' } := Step.same (fun _ _ e => e) rfl rfl rfl
  have st3 : StepL L φ1 φ1 s1 s2 := st0.l.trans st2 S1 S1'
  exact ⟨φ1, η1, st.l.trans st3 S S1, _, S2, hc⟩

-- a tuple bound to names
def elNames : List Expr → List Str → Prop
  | [], ns => ns = []
  | .Name x _ :: r, ns => ∃ s, ns = x :: s ∧ elNames r s
  | _ :: _, _ => False
theorem sets_wp {A : Around} {L : Addr} (ok : f.Ok) : ∀ (is : List Nat) (vs : List V) (us : List Value) (elts : List Expr) (φ : Phi) (η : H) (loc : Loc) (s : Shared) (k : Loc → Bool) (Q : Unit → Shared → Prop),
    (∀ (j : Nat) (x : Expr), elts[j]? = some x → ∃ (i : Nat) (nm : Str) (p : Pos), is[j]? = some i ∧ f.names[i]? = some nm ∧ x = Expr.Name nm p) → elts.length = is.length → SR G f φ η L loc s → VsR φ s.heap vs us → sets is vs loc k = true →
    (∀ loc' s', SR G f φ η L loc' s' → StepL L φ φ s s' → k loc' = true → Q () s') → wpAny G.M A (assignInOrder ((assignEach elts (f.env L)).map (·.2)) us) Q NoE s
  | [], vs, us, elts, φ, η, loc, s, k, Q, he, hl, S, hv, hk, q => by
    cases elts with
    | cons x r => cases hl
    | nil =>
      cases vs with
      | cons v r => cases hk
      | nil => exact assignInOrder_nil (q loc s S (StepL.refl _ _) hk)
  | i :: is, vs, us, elts, φ, η, loc, s, k, Q, he, hl, S, hv, hk, q => by
    cases elts with
    | nil => cases hl
    | cons x r =>
      cases vs with
      | nil => cases hk
      | cons v vr =>
        obtain ⟨u, ur, rfl, hu, hur⟩ := hv
        obtain ⟨i', nm, p, hi, hn, rfl⟩ := he 0 x rfl
        obtain rfl : i = i' := by simpa using hi
        have hk : setK v loc i (fun l => sets is vr l k) = true := hk
        rw [setK_eq] at hk
        show wpAny _ _ (assignInOrder ((fun v => assign (.Name nm p) (f.env L) v) :: (assignEach r (f.env L)).map (·.2)) (u :: ur)) _ _ _
        refine assignInOrder_cons (wpAny_assign_Name (store_wp ok S hn hu fun s1 S1 st1 => ?_))
        refine sets_wp ok is vr ur r φ η _ s1 k Q (fun j x hj => ?_) (by simpa using hl) S1 (hur.st (List.prefix_refl _) (st1.st S)) hk fun loc' s' S' st' hk' => q loc' s' S' (st1.trans st' S S1) hk'
        obtain ⟨a, b, c, d, e⟩ := he (j + 1) x (by simpa using hj)
        exact ⟨a, b, c, by simpa using d, e⟩
theorem each_len : ∀ (elts : List Expr) (env : Env), (assignEach elts env).length = elts.length
  | [], _ => rfl
  | x :: r, env => by cases x <;> simp [assignEach, each_len r env]
theorem each_star (env : Env) : ∀ (elts : List Expr), (∀ (j : Nat) (x : Expr), elts[j]? = some x → ∃ (nm : Str) (p : Pos), x = Expr.Name nm p) → (assignEach elts env).findIdx? (·.1) = none
  | [], _ => rfl
  | x :: r, h => by
    obtain ⟨nm, p, rfl⟩ := h 0 x rfl
    simp only [assignEach, List.findIdx?_cons, Bool.false_eq_true, if_false, Option.map_eq_none_iff]
    exact each_star env r fun j x hj => h (j + 1) x (by simpa using hj)
-- assigning a tuple
theorem tup_wp {A : Around} {L : Addr} {φ : Phi} {η : H} {loc : Loc} {s : Shared} {is : List Nat} {vs : List V} {u : Value} {elts : List Expr} {x1 : Nat} {pos : Pos} {k : Loc → Bool} {Q : Unit → Shared → Prop} (ok : f.Ok) (hh : A.handled = none)
    (he : ∀ (j : Nat) (x : Expr), elts[j]? = some x → ∃ (i : Nat) (nm : Str) (p : Pos), is[j]? = some i ∧ f.names[i]? = some nm ∧ x = Expr.Name nm p) (hl : elts.length = is.length) (S : SR G f φ η L loc s) (hv : VR φ s.heap (.tup vs) u) (hk : sets is vs loc k = true)
    (q : ∀ loc' s', SR G f φ η L loc' s' → StepL L φ φ s s' → k loc' = true → Q () s') : wpAny G.M A (assign (.Tuple elts x1 pos) (f.env L) u) Q NoE s := by
  obtain ⟨t, us, rfl, ht, hu⟩ := hv
  have hlen : vs.length = is.length := by
    have : ∀ (is : List Nat) (vs : List V) (loc : Loc), sets is vs loc k = true → vs.length = is.length := by
      intro is
      induction is with
      | nil => intro vs loc h; cases vs <;> first | rfl | cases h
      | cons i is ih =>
        intro vs loc h
        cases vs with
        | nil => cases h
        | cons v r =>
          have h : setK v loc i (fun l => sets is r l k) = true := h
          rw [setK_eq] at h
          rw [List.length_cons, List.length_cons, ih r _ h]
    exact this is vs loc hk
  refine assign_Tuple_tuple hh ht (by rw [each_len, hl, List.size_toArray, hu.length, hlen]) (each_star _ _ fun j x hj => by obtain ⟨i, nm, p, _, _, e⟩ := he j x hj; exact ⟨nm, p, e⟩) fun h' hx => ?_
  have kp : ∀ b ob, s.heap.get? b = some ob → h'.get? b = some ob := fun b o e => hx b o (Nat.ne_of_lt (Heap.lt_size e)) e
  have st1 : Step φ φ s { s with heap := h' } := Step.same kp rfl rfl rfl
  have r1 := S.hr.grow kp
  have S1 : SR G f φ η L loc { s with heap := h' } := S.step st1 r1
  exact sets_wp ok is vs us elts φ η loc _ k Q he hl S1 (hu.st (List.prefix_refl _) (S.st st1)) hk fun loc' s' S' st' hk' => q loc' s' S' (st1.l.trans st' S S1) hk'
theorem ss_unpack {is : List Nat} {elts : List Expr} {j : Nat} {m : XE} {e : Expr} {p pos : Pos} (ok : f.Ok)
    (he : ∀ (j : Nat) (x : Expr), elts[j]? = some x → ∃ (i : Nat) (nm : Str) (p : Pos), is[j]? = some i ∧ f.names[i]? = some nm ∧ x = Expr.Name nm p) (hl : elts.length = is.length) (h₁ : ES G f n m e)
    (hs : ∀ env, swapsWithSole [.Tuple elts j p] e pos.line env = pure false := by intro _; rfl)
    (hw : ∀ env, swappedStores [.Tuple elts j p] e env = pure none := by intro _; rfl) : SS G f n (sunpack is m) (.Assign [.Tuple elts j p] e pos) := by
  intro A L φ η loc s kn kr kb kc hA S h
  refine Assign_Tuple (hs := hs _) (hw := hw _) (h₁.thenS hA S h fun u v η1 φ1 s1 hk hv st S1 => ?_)
  obtain ⟨vs, rfl, hk1⟩ := asTup_of hk
  exact tup_wp ok hA.handled he hl S1 hv hk1 fun loc' s' S' st' hk' => ⟨φ1, η1, st.l.trans st' S S1, loc', S', hk'⟩

-- simple statements
theorem ss_expr {m : XE} {e : Expr} {pos : Pos} (h₁ : ES G f n m e) (hi : ∀ L, interactive (f.env L) = false) (hs : ∀ env, swapsWith e none pos.line env = pure false := by intro _; rfl) : SS G f n (sexpr m) (.Expr e pos) := by
  intro A L φ η loc s kn kr kb kc hA S h
  refine wpAny_Expr_any (h₁.thenS hA S h fun u v η1 φ1 s1 hk hv st S1 => ?_) (hi L) (hs _)
  exact ⟨φ1, η1, st.l, loc, S1, hk⟩
theorem ss_pass {pos : Pos} : SS G f n spass (.Pass pos) := fun A L φ η loc s kn kr kb kc hA S h => wpAny_Pass ⟨φ, η, StepL.refl _ _, loc, S, h⟩
theorem ss_break {pos : Pos} : SS G f n sbreak (.Break pos) := fun A L φ η loc s kn kr kb kc hA S h => wpAny_Break ⟨φ, η, StepL.refl _ _, loc, S, h⟩
theorem ss_cont {pos : Pos} : SS G f n scont (.Continue pos) := fun A L φ η loc s kn kr kb kc hA S h => wpAny_Continue ⟨φ, η, StepL.refl _ _, loc, S, h⟩
theorem ss_ret {m : XE} {e : Expr} {pos : Pos} (h₁ : ES G f n m e) : SS G f n (sret m) (.Return (some e) pos) := by
  intro A L φ η loc s kn kr kb kc hA S h
  refine wpAny_Return_some (h₁.thenS hA S h fun u v η1 φ1 s1 hk hv st S1 => ?_)
  exact ⟨φ1, η1, st.l, v, S1.hr, hv, hk⟩
theorem ss_if {c : XE} {a b : XS} {e : Expr} {body orelse : List Stmt} {pos : Pos} (h₁ : TS G f n c e) (h₂ : BS G f n a body) (h₃ : BS G f n b orelse) : SS G f n (sif c a b) (.If e body orelse pos) := by
  intro A L φ η loc s kn kr kb kc hA S h
  refine wpAny_If (wpAny_mono (h₁ A L φ η loc s (fun t h => bcase t (a loc h kn kr kb kc) (b loc h kn kr kb kc)) hA S h) (fun t s1 x => ?_) fun _ _ z => z)
  obtain ⟨η1, φ1, k, st, r1⟩ := x
  have S1 := S.step st r1
  cases t with
  | true => exact wpAny_mono (h₂ A L φ1 η1 loc s1 kn kr kb kc hA S1 k) (fun fl s'' z => PostS.from st.l S S1 z) fun _ _ z => z
  | false => exact wpAny_mono (h₃ A L φ1 η1 loc s1 kn kr kb kc hA S1 k) (fun fl s'' z => PostS.from st.l S S1 z) fun _ _ z => z
end
end Kp
end
-- part KpStmt2
section
set_option autoImplicit false
set_option linter.unusedVariables false
namespace Kp
open PySem PySem.W PyProof.Rows PySem.Calls

section
variable {G : Base} {f : Fx} {n : Nat} {A : Around} {E : Value → Shared → Prop}
-- an item of a list
theorem set_listP {s : Shared} {l : Addr} {us : Array Value} {k : Int} {t : Tok} {v : Value} {Q : Unit → Shared → Prop} (hl : PlainL s.heap l us) (h0 : 0 ≤ k) (hfit : k < 2 ^ 63) (hn : k < us.size)
    (hQ : ∀ h', PlainL h' l (us.setIfInBounds k.toNat v) → Heap.SameBut l s.heap h' → Q () { s with heap := h' }) : wpAny G.M A (setItem (.ref l) (.int k t) v) Q E s := by
  obtain ⟨o, m, ho, hc, hdn, hd⟩ := id hl
  unfold setItem
  try with_reducible refine wpAny_holding ?_
  first | refine wpAny_bind (wpAny_pure ?_) | skip
  refine wpAny_bind (wpAny_sequenceKey hl.isList.typeIs (by decide) ?_)
  refine wpAny_bind (wpAny_callSpecial?_slot (name := Str.ofString "__setitem__") hl.isList.typeIs slot_list_setitem
    (wpAny_call_entry slot_list_setitem hl.isList.typeIs entry_list_setitem ?_ (args_list_setitem _ _ _)))
  show wpAny _ _ (Builtin.List.listSubscript? (.int k t) >>= _) _ _ s
  refine wpAny_bind (wpAny_listSubscript_int (fitsIndex_of h0 hfit) ?_)
  clear hfit
  obtain ⟨j, rfl⟩ := Int.eq_ofNat_of_zero_le h0
  have hj : j < us.size := by omega
  have hx' : us[j]? = some us[j] := Array.getElem?_eq_getElem hj
  show wpAny _ _ ((seqItemAt l j >>= fun r => pure (r.map (j, ·))) >>= _) _ _ s
  refine wpAny_bind (wpAny_bind (wpAny_seqItemAt ho hd (wpAny_pure ?_)))
  rw [hx']
  show wpAny _ _ (setSeqItemAt l j v >>= _) _ _ s
  obtain ⟨n', hd'⟩ := Obj.data_mapSeq hd (·.setIfInBounds j v)
  have hfin : PlainL (s.heap.update l (Obj.mapSeq (·.setIfInBounds j v))) l (us.setIfInBounds j v) := by
    refine ⟨_, n', Heap.get?_update_self _ ho (Obj.isFreed_of_seq hd'), (Obj.cls_mapSeq ..).trans hc, ?_, hd'⟩
    obtain ⟨c, d, dt, sl⟩ := o
    subst hd
    exact hdn
  refine wpAny_bind (wpAny_setSeqItemAt ho hd ?_)
  first
    | exact wpAny_bind (wpAny_pure (wpAny_pure ⟨.none, rfl, wpAny_pure (hQ _ hfin (Heap.SameBut.update ..))⟩))
    | exact wpAny_pure ⟨.none, rfl, wpAny_pure (hQ _ hfin (Heap.SameBut.update ..))⟩

-- an item of a dict of tuples
theorem set_dictP {s : Shared} {d a : Addr} {k : List Int} {xs : List (List Int × Addr × Value)} {ep : Nat} {v : Value} {Q : Unit → Shared → Prop} (hu : G.knd.room A.in1) (hkey : G.knd.is s.heap k a)
    (ho : s.heap.get? d = some { cls := .type "dict", data := .dict (List.toArray (xs.map (entryOfKey G.knd))) ep }) (his : ∀ x ∈ xs, G.knd.is s.heap x.1 x.2.1) (hn : (xs.map (·.1)).Nodup)
    (hnew : (∀ (j : Nat) (p : Addr × Value), xs[j]? ≠ some (k, p)) → ∀ h', h'.get? d = some { cls := .type "dict", data := .dict (List.toArray ((xs ++ [(k, a, v)]).map (entryOfKey G.knd))) (ep + 1) } → Heap.SameBut d s.heap h' → Q () { s with heap := h', toks := s.toks + G.knd.draws k })
    (hold : ∀ (j : Nat) (p : Addr × Value), xs[j]? = some (k, p) → ∀ h', h'.get? d = some { cls := .type "dict", data := .dict (List.toArray ((xs.map (putAt k v)).map (entryOfKey G.knd))) ep } → Heap.SameBut d s.heap h' → Q () { s with heap := h', toks := s.toks + G.knd.draws k })
    (hsz : (∀ (j : Nat) (p : Addr × Value), xs[j]? ≠ some (k, p)) → xs.length ≤ 1000000) : wpAny G.M A (setItem (.ref d) (.ref a) v) Q E s := by
  have hm : s.heap.DictOfH G.knd d xs := ⟨_, _, ep, ho, ⟨rfl, rfl, rfl⟩, rfl, by simp, his, hn⟩
  unfold setItem
  try with_reducible refine wpAny_holding ?_
  refine wpAny_bind (wpAny_sequenceKey hm.typeIs (by decide) ?_)
  refine wpAny_bind (wpAny_callSpecial?_slot (name := Str.ofString "__setitem__") hm.typeIs slot_dict_setitem
    (wpAny_call_entry slot_dict_setitem hm.typeIs entry_dict_setitem ?_ (args_dict_setitem _ _ _)))
  show wpAny _ _ (Builtin.Dict.notOrdered "__setitem__" ⟨[.ref d, .ref a, v], []⟩ >>= _) _ _ s
  refine wpAny_bind (wpAny_notOrdered_dict hm.typeIs ?_)
  show wpAny _ _ (dictSet d (.ref a) v >>= _) _ _ s
  refine wpAny_bind ?_
  unfold dictSet
  try with_reducible refine wpAny_holding ?_
  refine wpAny_bind (G.knd.pyHash hu hkey ?_)
  unfold dictSetHashed
  try with_reducible refine wpAny_holding ?_
  refine wpAny_bind (wpAny_dictFind_heap (s := { s with toks := s.toks + G.knd.draws k }) (xs := xs) hu hkey ho rfl (by simp) his hn (fun hno => ?_) (fun j p hj => ?_))
  · refine wpAny_bind (wpAny_rule (wpAny_updateDictKeys (hz := by rw [List.size_toArray, List.length_map, sizeLine_eq]; have := hsz hno; omega) (s := { s with toks := s.toks + G.knd.draws k }) ho rfl
      (wpAny_pure ⟨.none, rfl, wpAny_pure (hnew hno _ ?_ (Heap.SameBut.update ..))⟩)))
    rw [Heap.get?_update_self _ ho rfl]
    simp [Obj.mapDictKeys, entryOfKey]
  · refine wpAny_bind (wpAny_rule (wpAny_bind (wpAny_updateDict (s := { s with toks := s.toks + G.knd.draws k }) ho rfl (wpAny_point (wpAny_pure ⟨.none, rfl, wpAny_pure (hold j p hj _ ?_ (Heap.SameBut.update ..))⟩)))))
    rw [Heap.get?_update_self _ ho rfl]
    have := modify_map_putAt (entryOfKey G.knd) (fun e : DictEntry => { e with val := v }) k v (fun _ _ => rfl) hn hj
    simp [Obj.mapDict, ← this]

-- an field of an record
theorem set_attrP {s : Shared} {x d : Addr} {es : List DictEntry} {m : Nat} {nm : Str} {v : Value} {Q : Unit → Shared → Prop} (X : G.K.In s.heap) (I : InstAt s.heap x (instObj G.C d) G.C (some (dictOf es m))) (hn : nm ∈ fieldNames)
    (hk : (getL nm es).isSome = true) (hz : es.length ≤ 1000)
    (h : ∀ tk h', h'.get? d = some (dictOf (putL nm (PyData.keyHash G.w.params nm) (.str nm tk) v es) (putN nm es m)) → Heap.SameBut d s.heap h' → Q () { s with heap := h', toks := s.toks + 2 }) :
    wpAny G.M A (setAttr (.ref x) nm v) Q E s := by
  refine set_plain (X) I G.cset ?_
  refine osa_open (s := { s with toks := s.toks + 1 }) X I G.cover (G.ctake nm hn) fun b => ?_
  obtain ⟨cd, hc, hd'⟩ := any_some G.cdict
  obtain ⟨hx, hcl, hdn, hD⟩ := I
  have D : s.heap.get? d = some (dictOf es m) := hD
  refine wpAny_bind (wpAny_pure (wpAny_bind (wpAny_bind (wpAny_loadPart (s := { s with toks := s.toks + 1 }) hx (wpAny_bind (Looks.here (s := { s with toks := s.toks + 1 }) (looks_clsIn X hc) ?_))))))
  rw [hd']
  refine wpAny_pure (a := some d) (wpAny_bind (wpAny_pure (wpAny_bind ?_)))
  unfold nsSet
  refine wpAny_bind (wpAny_bind (wpAny_askSetting (wpAny_pure (wpAny_bind (wpAny_mkText (wpAny_bind (wpAny_loadPart (s := { s with toks := s.toks + 1 + 1 }) D ?_)))))))
  dsimp only
  have c : (!es.toArray.any (·.key.isStr nm) && es.toArray.any (·.refKey)) = false := by
    rw [← Array.any_toList, ← Array.any_toList]
    unfold getL at hk
    split at hk
    · rename_i en he
      rw [List.any_eq_true.mpr ⟨en, List.mem_of_find?_eq_some he, List.find?_some he⟩]; rfl
    · split at hk
      · cases hk
      · rename_i z; rw [Bool.not_eq_true] at z
        show (_ && es.any _) = false
        rw [z, Bool.and_false]
  rw [aRefKeyMayBeTheName_at, c]
  have e : Obj.putName nm (PyData.keyHash G.w.params nm) (.str nm (s.toks + 1)) v (dictOf es m) = dictOf (putL nm (PyData.keyHash G.w.params nm) (.str nm (s.toks + 1)) v es) (putN nm es m) := putName_dict ..
  have hlen : ∀ (hh : Int) (ky vv : Value) (es : List DictEntry), (putL nm hh ky vv es).length ≤ es.length + 1 := by
    intro hh ky vv es
    induction es with
    | nil => exact Nat.le_refl _
    | cons a r ih => unfold putL; split <;> simp <;> omega
  have D' : (s.heap.update d (Obj.putName nm (PyData.keyHash G.w.params nm) (.str nm (s.toks + 1)) v)).get? d = some (dictOf (putL nm (PyData.keyHash G.w.params nm) (.str nm (s.toks + 1)) v es) (putN nm es m)) := by
    rw [Heap.get?_update_self _ D (by rw [e]; rfl), e]
  refine wpAny_updatePart (s := { s with toks := s.toks + 1 + 1 }) D ?_
  refine wpAny_bind (wpAny_lookBehind D' (pastItsLine_dict (by rw [List.size_toArray, sizeLine_eq]; have := hlen (PyData.keyHash G.w.params nm) (.str nm (s.toks + 1)) v es; omega)) ?_)
  exact wpAny_pure (h _ _ D' (Heap.SameBut.update ..))
end
end Kp
end
-- part KpStmt3
section
set_option autoImplicit false
set_option linter.unusedVariables false
namespace Kp
open PySem PySem.W PyProof.Rows PySem.Calls

theorem store_eq (o : AO) (n : Nat) (η : H) (k : H → Bool) : store o n η k = bcase (Nat.ble η.r n) (k ⟨η.t.put o n, η.n, η.r⟩) false := by cases η; rfl
theorem storeS_eq (o : SO) (n : Nat) (η : H) (k : H → Bool) : storeS o n η k = bcase (Nat.ble η.r n) (k ⟨η.t.putS o n, η.n, η.r⟩) false := by cases η; rfl
def dset (v : V) : List (V × V) → Nat → List (V × V)
  | [], _ => []
  | p :: r, 0 => (p.1, v) :: r
  | p :: r, i + 1 => p :: dset v r i
theorem dsetK_eq (v : V) : ∀ (kvs : List (V × V)) (i : Nat) (k : List (V × V) → Bool), dsetK v kvs i k = k (dset v kvs i)
  | [], _, _ => rfl
  | (a, b) :: r, 0, _ => rfl
  | p :: r, i + 1, k => by
    show dsetK v r i (fun ys => k (p :: ys)) = _
    rw [dsetK_eq v r i]; rfl
theorem dsnocK_eq (p : V × V) : ∀ (kvs : List (V × V)) (k : List (V × V) → Bool), dsnocK p kvs k = k (kvs ++ [p])
  | [], _ => rfl
  | x :: r, k => by
    show dsnocK p r (fun ys => k (x :: ys)) = _
    rw [dsnocK_eq p r]; rfl
theorem lenD_aux : ∀ (xs : List (V × V)) (n : Nat), @List.rec (V × V) (fun _ => Nat → Nat) (fun n => n) (fun _ _ ih n => ih (Nat.succ n)) xs n = n + xs.length
  | [], n => rfl
  | x :: r, n => by
    show @List.rec (V × V) (fun _ => Nat → Nat) (fun n => n) (fun _ _ ih n => ih (Nat.succ n)) r (Nat.succ n) = _
    rw [lenD_aux r]; simp; omega
theorem lenD_eq (xs : List (V × V)) : lenD xs = xs.length := by
  have := lenD_aux xs 0
  unfold lenD; rw [this]; omega

section
variable {G : Base} {f : Fx} {n : Nat}
theorem DR.length {φ : Phi} {h : Heap} : ∀ {kvs : List (V × V)} {xs : List (List Int × Addr × Value)}, DR G φ h kvs xs → kvs.length = xs.length
  | [], xs, r => by rw [show xs = [] from r]; rfl
  | _ :: _, xs, ⟨q, y, s, e, _, _, _, r⟩ => by rw [e, List.length_cons, List.length_cons, r.length]
theorem DR.snoc {φ : Phi} {h : Heap} {q : List V} {a : Addr} {v : V} {u : Value} (ka : allInts q = true) (ki : G.knd.is h (intsOf q) a) (hv : VR φ h v u) :
    ∀ {kvs : List (V × V)} {xs : List (List Int × Addr × Value)}, DR G φ h kvs xs → DR G φ h (kvs ++ [(.tup q, v)]) (xs ++ [(intsOf q, a, u)])
  | [], xs, r => by
    rw [show xs = [] from r]
    refine ⟨intsOf q, (a, u), [], rfl, ?_, ki, hv, rfl⟩
    show V.tup q = .tup ((intsOf q).map V.int)
    rw [← allInts_eq ka]
  | p :: kvs, xs, ⟨ks, y, s, e, a1, a2, a3, r⟩ => by
    subst e
    exact ⟨ks, y, s ++ [(intsOf q, a, u)], rfl, a1, a2, a3, DR.snoc ka ki hv r⟩
theorem DR.set {φ : Phi} {h : Heap} {k : List Int} {v : V} {u : Value} (hv : VR φ h v u) :
    ∀ {kvs : List (V × V)} {xs : List (List Int × Addr × Value)} {j : Nat} {p : Addr × Value}, DR G φ h kvs xs → (xs.map (·.1)).Nodup → xs[j]? = some (k, p) → DR G φ h (dset v kvs j) (xs.map (putAt k u))
  | [], xs, j, p, r, hn, e => by rw [show xs = [] from r] at e; simp at e
  | q :: kvs, xs, j, p, ⟨ks, y, s, e1, a1, a2, a3, r⟩, hn, e => by
    subst e1
    rw [List.map_cons, List.nodup_cons] at hn
    cases j with
    | zero =>
      simp only [List.getElem?_cons_zero, Option.some.injEq, Prod.mk.injEq] at e
      obtain ⟨e, rfl⟩ := e
      subst e
      have h1 : ks ∉ s.map (·.1) := hn.1
      rw [List.map_cons, map_putAt_of_not_mem s ks u h1]
      refine ⟨ks, (y.1, u), s, ?_, a1, a2, hv, r⟩
      unfold putAt; rw [if_pos rfl]
    | succ j =>
      simp only [List.getElem?_cons_succ] at e
      have : ks ≠ k := by
        rintro rfl
        exact hn.1 (List.mem_map.mpr ⟨_, List.mem_of_getElem? e, rfl⟩)
      refine ⟨ks, y, s.map (putAt k u), ?_, a1, a2, a3, DR.set hv r hn.2 e⟩
      rw [List.map_cons]
      unfold putAt; rw [if_neg this]

-- an item of a list or of a dict
theorem item_put {A : Around} {L : Addr} {φ : Phi} {η : H} {loc : Loc} {s : Shared} {nn : Nat} {x v : V} {ux uv uo : Value} {k : H → Bool} {Q : Unit → Shared → Prop} (hA : Room A n) (S : SR G f φ η L loc s)
    (ho : VR φ s.heap (.ref nn) uo) (hx : VR φ s.heap x ux) (hv : VR φ s.heap v uv)
    (h : objCase (getT η nn) (fun xs => asNat x fun j => bcase (Nat.ble j (nat_lit 1000000)) (bcase (ltLen xs j) (setK v xs j fun xs => store (.list xs) nn η k) false) false)
      (fun ep kvs => asKey x fun q => dfind q kvs (bcase (Nat.ble (lenD kvs) (nat_lit 1000000)) (dsnocK (x, v) kvs fun kvs => store (.dict (Nat.succ ep) kvs) nn η k) false) (nat_lit 0) fun j _ => dsetK v kvs j fun kvs => store (.dict ep kvs) nn η k)
      (fun _ => false) = true)
    (q : ∀ η' s', Step φ φ s s' → SR G f φ η' L loc s' → k η' = true → Q () s') : wpAny G.M A (setItem uo ux uv) Q NoE s := by
  obtain ⟨a, d, ej, rfl⟩ := ho
  rw [getT_eq] at h
  rcases obj_of h with ⟨xs, eo, h1⟩ | ⟨ep, kvs, eo, h1⟩ | ⟨fs, eo, h1⟩
  · obtain ⟨j, rfl, h2⟩ := asNat_of h1
    obtain ⟨hb, h3⟩ := bc_of h2
    have hb : j ≤ 1000000 := Nat.le_of_ble_eq_true hb
    obtain ⟨hl, h4⟩ := bc_of h3
    rw [ltLen_eq] at hl
    have hl := of_decide_eq_true hl
    rw [setK_eq, store_eq] at h4
    obtain ⟨hro, h4⟩ := bc_of h4
    have hro : η.r ≤ nn := Nat.le_of_ble_eq_true hro
    have hrr := S.hr.ror
    obtain ⟨t, rfl⟩ := VR.int hx
    obtain ⟨rfl, us, hp, hu⟩ := S.hr.list ej eo
    have hlen := hu.length
    refine set_listP hp (by simp) (by show (j : Int) < 2 ^ 63; omega) (by rw [List.size_toArray, hlen]; show (j : Int) < _; omega) fun h' hp' hs => ?_
    have st : Step φ φ s { s with heap := h' } := Step.turn (List.mem_of_getElem? ej) (fun b q => hs.2 b q) rfl rfl rfl
    have sto : St s.heap h' := st.st S.hr
    have r : HR G φ ⟨η.t.put (.list (setV v xs j)) nn, η.n, η.r⟩ h' := by
      refine S.hr.turn ej (fun b q => hs.2 b q) (hrr ▸ hro) ⟨rfl, us.set j uv, ?_, (hu.st (List.prefix_refl _) sto).set (hv.st (List.prefix_refl _) sto)⟩
      have : (us.set j uv).toArray = us.toArray.setIfInBounds (Int.ofNat j).toNat uv := by simp
      rw [this]; exact hp'
    exact q _ _ st (S.step st r) h4
  · obtain ⟨key, rfl, ka, h2⟩ := asKey_of h1
    obtain ⟨t, rfl, hk⟩ := tupKey_of (G := G) hx ka
    obtain ⟨rfl, xs, ho, hn, hd⟩ := S.hr.dict ej eo
    have hlen := hd.length
    have hall := hd.is
    rcases dfind_of ka hd h2 with ⟨c, h3⟩ | ⟨jj, b, w, z, e1, e2, hr, h3⟩
    · obtain ⟨hb, h4⟩ := bc_of h3
      have hb : lenD kvs ≤ 1000000 := Nat.le_of_ble_eq_true hb
      rw [lenD_eq] at hb
      rw [dsnocK_eq, store_eq] at h4
      obtain ⟨hro, h4⟩ := bc_of h4
      have hro : η.r ≤ nn := Nat.le_of_ble_eq_true hro
      have hrr := S.hr.ror
      refine set_dictP (tupleKind_room_in1 (by have := hA.units; omega)) hk ho hall hn (fun hno h' ho' hs => ?_) (fun j p hj h' ho' hs => ?_) (fun _ => by omega)
      · have st : Step φ φ s { s with heap := h', toks := s.toks + G.knd.draws (intsOf key) } := Step.turn (List.mem_of_getElem? ej) (fun b q => hs.2 b q) rfl rfl rfl
        have sto : St s.heap h' := st.st S.hr
        have r : HR G φ ⟨η.t.put (.dict (Nat.succ ep) (kvs ++ [(.tup key, v)])) nn, η.n, η.r⟩ h' := by
          refine S.hr.turn ej (fun b q => hs.2 b q) (hrr ▸ hro) ⟨rfl, xs ++ [(intsOf key, t, uv)], ho', ?_, ?_⟩
          · rw [List.map_append, List.nodup_append]
            refine ⟨hn, by simp, fun y hy z hz => ?_⟩
            simp only [List.map_cons, List.map_nil, List.mem_singleton] at hz
            subst hz
            rintro rfl
            obtain ⟨p, hp, e⟩ := List.mem_map.mp hy
            obtain ⟨i, hi⟩ := List.mem_iff_getElem?.mp hp
            exact hno i p.2 (by rw [hi, ← e])
          · have hk' : G.knd.is h' (intsOf key) t := by
              obtain ⟨o, it, m, ho1, hc, hd1, hi⟩ := hk
              exact ⟨o, it, m, sto _ _ ho1 (.inl ⟨hc, _, m, hd1⟩), hc, hd1, hi⟩
            exact DR.snoc ka hk' (hv.st (List.prefix_refl _) sto) (hd.st (List.prefix_refl _) sto)
        exact q _ _ st (S.step st r) h4
      · rw [atKey_of_get hn hj] at c; cases c
    · rw [dsetK_eq, store_eq] at h3
      obtain ⟨hro, h3⟩ := bc_of h3
      have hro : η.r ≤ nn := Nat.le_of_ble_eq_true hro
      have hrr := S.hr.ror
      refine set_dictP (tupleKind_room_in1 (by have := hA.units; omega)) hk ho hall hn (fun hno h' ho' hs => ?_) (fun j p hj h' ho' hs => ?_) (fun hno => absurd e1 (hno _ _))
      · exact absurd e1 (hno _ _)
      · have hjj : j = jj := idxH_unique hn hj e1
        subst hjj
        have st : Step φ φ s { s with heap := h', toks := s.toks + G.knd.draws (intsOf key) } := Step.turn (List.mem_of_getElem? ej) (fun b q => hs.2 b q) rfl rfl rfl
        have sto : St s.heap h' := st.st S.hr
        have r : HR G φ ⟨η.t.put (.dict ep (dset v kvs j)) nn, η.n, η.r⟩ h' := by
          refine S.hr.turn ej (fun b q => hs.2 b q) (hrr ▸ hro) ⟨rfl, xs.map (putAt (intsOf key) uv), ho', by rw [keys_map_putAt]; exact hn, ?_⟩
          exact DR.set (hv.st (List.prefix_refl _) sto) (hd.st (List.prefix_refl _) sto) hn hj
        have h3 : k ⟨η.t.put (.dict ep (dset v kvs (0 + j))) nn, η.n, η.r⟩ = true := h3
        rw [Nat.zero_add] at h3
        exact q _ _ st (S.step st r) h3
  · cases h1
end
end Kp
end
-- part KpStmt4
section
set_option autoImplicit false
set_option linter.unusedVariables false
namespace Kp
open PySem PySem.W PyProof.Rows PySem.Calls

section
variable {G : Base} {f : Fx} {n : Nat}
theorem item_putS {A : Around} {L : Addr} {φ : Phi} {η : H} {loc : Loc} {s : Shared} {nn : Nat} {x v : V} {ux uv uo : Value} {k : H → Bool} {Q : Unit → Shared → Prop} (hA : Room A n) (S : SR G f φ η L loc s)
    (ho : VR φ s.heap (.ref nn) uo) (hx : VR φ s.heap x ux) (hv : VR φ s.heap v uv)
    (h : soCase (getS η nn) (fun o => objCase o (fun xs => asNat x fun j => bcase (Nat.ble j (nat_lit 1000000)) (bcase (ltLen xs j) (setK v xs j fun xs => store (.list xs) nn η k) false) false)
      (fun ep kvs => asKey x fun q => dfind q kvs (bcase (Nat.ble (lenD kvs) (nat_lit 1000000)) (dsnocK (x, v) kvs fun kvs => store (.dict (Nat.succ ep) kvs) nn η k) false) (nat_lit 0) fun j _ => dsetK v kvs j fun kvs => store (.dict ep kvs) nn η k)
      (fun _ => false))
      (fun p len => asNat x fun j => bcase (Nat.ble j (nat_lit 1000000)) (bcase (Nat.ble (Nat.succ j) len) (small16 v fun m => forceN (setP p (Nat.pow (nat_lit 65536) j) m) fun p => storeS (.pk p len) nn η k) false) false) = true)
    (q : ∀ η' s', Step φ φ s s' → SR G f φ η' L loc s' → k η' = true → Q () s') : wpAny G.M A (setItem uo ux uv) Q NoE s := by
  have eT : getT η nn = SO.view (getS η nn) := rfl
  cases es : getS η nn with
  | ob o =>
    rw [es] at h eT
    refine item_put hA S ho hx hv ?_ q
    rw [eT]
    exact h
  | pk p len =>
    rw [es] at h eT
    obtain ⟨j, rfl, h1⟩ := asNat_of h
    obtain ⟨hb, h2⟩ := bc_of h1
    obtain ⟨hl, h3⟩ := bc_of h2
    unfold small16 at h3
    obtain ⟨m, rfl, h4⟩ := asNat_of h3
    obtain ⟨hm, h5⟩ := bc_of h4
    have h5 : forceN (setP p (Nat.pow (nat_lit 65536) j) m) (fun p => storeS (SO.pk p len) nn η k) = true := h5
    rw [forceN_eq, storeS_eq] at h5
    obtain ⟨hr, h6⟩ := bc_of h5
    have hl : j < len := Nat.le_of_ble_eq_true hl
    have hm : m < 65536 := Nat.le_of_ble_eq_true hm
    classical
    refine item_put (k := fun η' => decide (η' = ⟨η.t.put (.list (unpk len (setP p (65536 ^ j) m))) nn, η.n, η.r⟩)) hA S ho hx hv ?_ fun η' s' st S' z => ?_
    · rw [eT]
      show bcase (Nat.ble j (nat_lit 1000000)) (bcase (ltLen (unpk len p) j) (setK (.int (.ofNat m)) (unpk len p) j fun xs => store (.list xs) nn η fun η' => decide (η' = ⟨η.t.put (.list (unpk len (setP p (65536 ^ j) m))) nn, η.n, η.r⟩)) false) false = true
      rw [show Nat.ble j (nat_lit 1000000) = true from hb, ltLen_eq, unpk_len, decide_eq_true hl, setK_eq, store_eq, hr, ← unpk_set len p j m hl hm]
      exact decide_eq_true rfl
    · have z := of_decide_eq_true z
      subst z
      exact q ⟨η.t.putS (.pk (setP p (65536 ^ j) m) len) nn, η.n, η.r⟩ s' st (S'.step (Step.refl _ _) (S'.hr.view (fun i => tget_same (.pk (setP p (65536 ^ j) m) len) η.t nn i) rfl rfl)) h6
theorem ss_ssub {m₁ m₂ m₃ : XE} {eo ei ev : Expr} {p pos : Pos} (h₁ : ES G f n m₁ eo) (h₂ : ES G f n m₂ ei) (h₃ : ES G f n m₃ ev)
    (hs : ∀ env, swapsWith ev (some (.Subscript eo ei p)) pos.line env = pure false := by intro _; rfl) : SS G f n (ssub m₁ m₂ m₃) (.Assign [.Subscript eo ei p] ev pos) := by
  intro A L φ η loc s kn kr kb kc hA S h
  refine wpAny_Assign_Subscript (hs := hs _) (h₃.thenS hA S h fun u v η1 φ1 s1 hk hv st S1 => ?_)
  refine h₁.thenS hA S1 hk fun uo vo η2 φ2 s2 hk2 hvo st2 S2 => ?_
  refine h₂.thenS hA S2 hk2 fun ui vi η3 φ3 s3 hk3 hvi st3 S3 => ?_
  obtain ⟨nn, rfl, hk4⟩ := asRef_of hk3
  have v3 := (hv.st st2.pre (S1.st st2)).st st3.pre (S2.st st3)
  refine item_putS hA S3 (hvo.st st3.pre (S2.st st3)) hvi v3 hk4 fun η4 s4 st4 S4 q => ?_
  exact ⟨φ3, η4, (((st.trans st2 S.hr S1.hr).trans st3 S.hr S2.hr).trans st4 S.hr S3.hr).l, loc, S4, q⟩
theorem ss_saugsub {m₁ m₂ m₃ : XE} {o : Op} {op : Operator} {eo ei ev : Expr} {p pos : Pos} (ho : IopOk G o op) (h₁ : ES G f n m₁ eo) (h₂ : ES G f n m₂ ei) (h₃ : ES G f n m₃ ev)
    (ha : ∀ ov iv new, augStore ei ov iv new = (do holding [new, ov, iv] (setItem ov iv new); release [new, ov, iv] []; pure .next) := by intro _ _ _; rfl) :
    SS G f n (saugsub m₁ m₂ o m₃) (.AugAssign (.Subscript eo ei p) op ev pos) := by
  intro A L φ η loc s kn kr kb kc hA S h
  refine wpAny_AugAssign_Subscript_any (ha := ha) (h₁.thenS hA S h fun uo vo η1 φ1 s1 hk hvo st S1 => ?_)
  refine h₂.thenS hA S1 hk fun ui vi η2 φ2 s2 hk2 hvi st2 S2 => ?_
  obtain ⟨nn, xs, rfl, eo, hk3⟩ := asList_of hk2
  obtain ⟨j, rfl, hk4⟩ := asNat_of hk3
  obtain ⟨hb, hk5⟩ := bc_of hk4
  have hb : j ≤ 1000000 := Nat.le_of_ble_eq_true hb
  obtain ⟨hu, hk6⟩ := known_of hk5
  obtain ⟨t, rfl⟩ := VR.int hvi
  have hvo2 := hvo.st st2.pre (S1.st st2)
  obtain ⟨a, d, ej, rfl⟩ := hvo2
  obtain ⟨rfl, us, hp, hus⟩ := S2.hr.list ej eo
  obtain ⟨w, hw, hr⟩ := hus.get (getV_some hu)
  refine wpAny_getItem_list hp.isList (by simp) (by show (j : Int) < 2 ^ 63; omega) (by simpa using hw) ?_
  refine h₃.thenS hA S2 hk6 fun uv vv η3 φ3 s3 hk7 hvv st3 S3 => ?_
  obtain ⟨nn', xs', e1, eo', hk8⟩ := asList_of hk7
  cases e1
  obtain ⟨ia, ea, hk9⟩ := asInt_of hk8
  obtain ⟨ib, rfl, hk10⟩ := asInt_of hk9
  have hr3 := hr.st st3.pre (S2.st st3)
  rw [ea] at hr3
  obtain ⟨t0, rfl⟩ := VR.int hr3
  obtain ⟨t1, rfl⟩ := VR.int hvv
  refine ho _ _ _ _ _ _ _ _ hk10 fun c tk tk' hc => ?_
  have S3' : SR G f φ3 η3 L loc { s3 with toks := tk' } := S3.step (Step.same (fun _ _ e => e) rfl rfl rfl) S3.hr
  have st4 : Step φ3 φ3 s3 { s3 with toks := tk' } := Step.same (fun _ _ e => e) rfl rfl rfl
  refine item_put (x := .int (.ofNat j)) (v := .int c) (k := fun h => kn loc h) hA S3' ⟨a, a, pre_get st3.pre ej, rfl⟩ ⟨_, rfl⟩ ⟨_, rfl⟩ ?_ fun η4 s4 st5 S4 q => ?_
  · rw [getT_eq, eo']
    show bcase (Nat.ble j (nat_lit 1000000)) _ false = true
    rw [show Nat.ble j (nat_lit 1000000) = true from Nat.ble_eq_true_of_le hb]
    exact hc
  · exact ⟨φ3, η4, ((((st.trans st2 S.hr S1.hr).trans st3 S.hr S2.hr).trans st4 S.hr S3.hr).trans st5 S.hr S3'.hr).l, loc, S4, q⟩

-- an field
theorem isStr_str (x nm : Str) (t : Tok) : (Value.str x t).isStr nm = (x == nm) := rfl
theorem getL_of_keys {es : List DictEntry} (hk : ∀ e ∈ es, ∃ x t, e.key = .str x t) (nm : Str) : getL nm es = some ((es.find? (·.key.isStr nm)).map (·.val)) := by
  unfold getL
  cases e : es.find? (·.key.isStr nm) with
  | some z => rfl
  | none =>
    have : es.any (·.refKey) = false := by
      rw [Bool.eq_false_iff]
      intro h
      obtain ⟨z, hz, h⟩ := List.any_eq_true.mp h
      obtain ⟨x, t, hx⟩ := hk z hz
      unfold DictEntry.refKey at h
      rw [hx] at h
      cases h
    dsimp only
    rw [this]; rfl
theorem find_putL {nm : Str} {hsh : Int} {tk : Tok} {v : Value} (y : Str) : ∀ (es : List DictEntry), (∀ e ∈ es, ∃ x t, e.key = .str x t) →
    ((putL nm hsh (.str nm tk) v es).find? (·.key.isStr y)).map (·.val) = if nm = y then some v else (es.find? (·.key.isStr y)).map (·.val)
  | [], hk => by
    by_cases q : nm = y
    · simp [putL, isStr_str, q]
    · simp [putL, isStr_str, q]
  | e :: r, hk => by
    obtain ⟨x, t, hx⟩ := hk e (.head _)
    have ih := find_putL (nm := nm) (hsh := hsh) (tk := tk) (v := v) y r fun e h => hk e (.tail _ h)
    unfold putL
    rw [hx, isStr_str]
    by_cases c : x = nm
    · subst c
      simp only [BEq.rfl, if_true, List.find?_cons, hx, isStr_str]
      by_cases q : x = y
      · simp [q]
      · simp [q, beq_false_of_ne q]
    · rw [beq_false_of_ne c]
      simp only [Bool.false_eq_true, if_false, List.find?_cons, hx, isStr_str]
      by_cases q : x = y
      · subst q
        simp [Ne.symm c]
      · rw [beq_false_of_ne q]
        exact ih
theorem keys_putL {nm : Str} {hsh : Int} {tk : Tok} {v : Value} : ∀ {es : List DictEntry}, (∀ e ∈ es, ∃ x t, e.key = .str x t) → ∀ e ∈ putL nm hsh (.str nm tk) v es, ∃ x t, e.key = .str x t
  | [], hk, e, h => by
    simp only [putL, List.mem_singleton] at h
    subst h; exact ⟨_, _, rfl⟩
  | a :: r, hk, e, h => by
    unfold putL at h
    split at h
    · rcases List.mem_cons.mp h with rfl | h
      · exact hk a (.head _)
      · exact hk e (.tail _ h)
    · rcases List.mem_cons.mp h with rfl | h
      · exact hk _ (.head _)
      · exact keys_putL (fun e h => hk e (.tail _ h)) e h
theorem len_putL {nm : Str} {hsh : Int} {key v : Value} : ∀ (es : List DictEntry), (putL nm hsh key v es).length = if (es.find? (·.key.isStr nm)).isSome then es.length else es.length + 1
  | [] => rfl
  | e :: r => by
    unfold putL
    rw [List.find?_cons]
    cases c : e.key.isStr nm with
    | true => simp
    | false =>
      simp only [Bool.false_eq_true, if_false, List.length_cons, len_putL r]
      split <;> rfl
theorem cnt_cons {v : V} {r : List V} (h : v ≠ .unb) : cnt (v :: r) = cnt r + 1 := by cases v <;> first | exact absurd rfl h | rfl
open Classical in
theorem cnt_set {v : V} (hv : v ≠ .unb) : ∀ (fs : List V) (i : Nat), i < fs.length → cnt (setV v fs i) = if getV fs i = .unb then cnt fs + 1 else cnt fs
  | [], _, h => by simp at h
  | x :: r, 0, _ => by
    show cnt (v :: r) = if x = .unb then _ else _
    rw [cnt_cons hv]
    by_cases c : x = .unb
    · subst c; rw [if_pos rfl]; rfl
    · rw [if_neg c, cnt_cons c]
  | x :: r, i + 1, h => by
    show cnt (x :: setV v r i) = if getV r i = .unb then _ else _
    have ih := cnt_set hv r i (by simpa using h)
    by_cases c : x = .unb
    · subst c
      show cnt (setV v r i) = if _ then cnt r + 1 else cnt r
      exact ih
    · rw [cnt_cons c, cnt_cons c, ih]
      split <;> rfl
theorem cnt_le : ∀ (fs : List V), cnt fs ≤ fs.length
  | [] => Nat.le_refl _
  | x :: r => by
    have := cnt_le r
    by_cases c : x = .unb
    · subst c; show cnt r ≤ r.length + 1; omega
    · rw [cnt_cons c, List.length_cons]; omega
theorem VR.ne {φ : Phi} {h : Heap} {v : V} {u : Value} (r : VR φ h v u) : v ≠ .unb := by rintro rfl; exact r
theorem names14 {i : Nat} {nm : Str} (h : fieldNames[i]? = some nm) : i < 14 := (List.getElem?_eq_some_iff.mp h).1
theorem names_nd : fieldNames.Nodup := by decide +kernel
theorem FieldsR.put {φ : Phi} {h : Heap} {fs : List V} {es : List DictEntry} {i : Nat} {nm : Str} {v : V} {u : Value} {hsh : Int} {tk : Tok} (F : FieldsR φ h fs es) (hi : fieldNames[i]? = some nm) (hv : VR φ h v u) :
    FieldsR φ h (setV v fs i) (putL nm hsh (.str nm tk) u es) := by
  have hlt : i < fs.length := by rw [F.size]; exact names14 hi
  refine ⟨fun j y hj hne => ?_, keys_putL F.keys, ?_, by rw [setV_len]; exact F.size⟩
  · rw [getL_of_keys (keys_putL F.keys), find_putL y es F.keys]
    rw [getV_set v fs i j hlt] at hne ⊢
    by_cases c : i = j
    · subst c
      rw [hi] at hj
      cases hj
      rw [if_pos rfl, if_pos rfl]
      exact ⟨u, rfl, hv⟩
    · rw [if_neg c] at hne ⊢
      have : nm ≠ y := by
        rintro rfl
        exact c ((List.getElem?_inj (List.getElem?_eq_some_iff.mp hi).1 names_nd).mp (hi.trans hj.symm))
      rw [if_neg this]
      obtain ⟨w, e, r⟩ := F.get j y hj hne
      rw [getL_of_keys F.keys] at e
      exact ⟨w, e, r⟩
  · rw [len_putL, cnt_set hv.ne fs i hlt]
    have := F.few
    by_cases c : getV fs i = .unb
    · rw [if_pos c]; split <;> omega
    · rw [if_neg c]
      obtain ⟨w, e, r⟩ := F.get i nm hi c
      rw [getL_of_keys F.keys] at e
      cases q : es.find? (·.key.isStr nm) with
      | none => rw [q] at e; cases e
      | some z => exact this
theorem ss_sattr {m₁ m₂ : XE} {i : Nat} {nm : Str} {eo ev : Expr} {p pos : Pos} (hn : fieldNames[i]? = some nm) (h₁ : ES G f n m₁ eo) (h₂ : ES G f n m₂ ev)
    (hs : ∀ env, swapsWith ev (some (.Attribute eo nm p)) pos.line env = pure false := by intro _; rfl) : SS G f n (sattr m₁ i m₂) (.Assign [.Attribute eo nm p] ev pos) := by
  intro A L φ η loc s kn kr kb kc hA S h
  refine plainObj_wpAny_Assign_Attribute (hs := hs _) (h₂.thenS hA S h fun u v η1 φ1 s1 hk hv st S1 => ?_)
  refine h₁.thenS hA S1 hk fun uo vo η2 φ2 s2 hk2 hvo st2 S2 => ?_
  obtain ⟨nn, rfl, hk3⟩ := asRef_of hk2
  obtain ⟨a, d, ej, rfl⟩ := hvo
  have hv := hv.st st2.pre (S1.st st2)
  rw [getT_eq] at hk3
  rcases obj_of hk3 with ⟨xs, eo, q⟩ | ⟨ep, kvs, eo, q⟩ | ⟨fs, eo, q⟩
  · cases q
  · cases q
  · rw [setK_eq, store_eq] at q
    obtain ⟨hro, q⟩ := bc_of q
    have hro : η2.r ≤ nn := Nat.le_of_ble_eq_true hro
    have hrr := S2.hr.ror
    obtain ⟨es, m, I, F⟩ := S2.hr.inst ej eo
    have hl : es.length ≤ 1000 := by
      have h1 := F.few
      have h2 := cnt_le fs
      have h3 := F.size
      omega
    refine set_attrP (fun b o e => S2.hr.keep b o (G.X b o e)) I (List.mem_of_getElem? hn) (by rw [getL_of_keys F.keys]; rfl) hl fun tk h' hd' hs' => ?_
    have st3 : Step φ2 φ2 s2 { s2 with heap := h', toks := s2.toks + 2 } := Step.turn (List.mem_of_getElem? ej) (fun b q => hs'.2 b q) rfl rfl rfl
    have sto : St s2.heap h' := st3.st S2.hr
    have r : HR G φ2 ⟨η2.t.put (.inst (setV v fs i)) nn, η2.n, η2.r⟩ h' := by
      refine S2.hr.turn ej (fun b q => hs'.2 b q) (hrr ▸ hro) ⟨sto _ _ I.1 (.inr (.inr rfl)), _, _, hd', ?_⟩
      exact (F.st (List.prefix_refl _) sto).put hn (hv.st (List.prefix_refl _) sto)
    exact ⟨φ2, _, ((st.trans st2 S.hr S1.hr).trans st3 S.hr S2.hr).l, loc, S2.step st3 r, q⟩
end
end Kp
end
-- part KpLoop
section
set_option autoImplicit false
set_option linter.unusedVariables false
namespace Kp
open PySem PySem.W PyProof.Rows PySem.Calls

section
variable {G : Base} {f : Fx} {n : Nat}

-- while
theorem swhile_succ (c : XE) (a : XS) (k : Nat) (l : Loc) (h : H) (kn : KN) (kr : KR) (kb kc : KN) : swhile c a (k + 1) l h kn kr kb kc =
  c l h fun v h => truthy v fun t => bcase t (a l h (fun l h => swhile c a k l h kn kr kn kn) kr kn (fun l h => swhile c a k l h kn kr kn kn)) (kn l h) := rfl
theorem ss_while {c : XE} {a : XS} {fu : Nat} {e : Expr} {body : List Stmt} {pos : Pos} (h₁ : TS G f n c e) (h₂ : BS G f n a body) : SS G f n (swhile c a fu) (.While e body [] pos) := by
  intro A L φ η loc s kn kr kb kc hA S h
  have h : swhile c a fu loc η kn kr kn kn = true := by cases fu <;> exact h
  refine wpAny_While (codeAny_whileLoop (fun k s' => ∃ φ' η' loc', StepL L φ φ' s s' ∧ SR G f φ' η' L loc' s' ∧ swhile c a k loc' η' kn kr kn kn = true) ?_ fu ⟨φ, η, loc, StepL.refl _ _, S, h⟩)
  rintro k s' ⟨φ', η', loc', y, S', hk⟩
  cases k with
  | zero => cases hk
  | succ k =>
    rw [swhile_succ] at hk
    refine wpAny_mono (h₁ A L φ' η' loc' s' (fun t h => bcase t (a loc' h (fun l h => swhile c a k l h kn kr kn kn) kr kn (fun l h => swhile c a k l h kn kr kn kn)) (kn loc' h)) hA S' hk) (fun t s1 x => ?_) fun _ _ z => z.elim
    obtain ⟨η1, φ1, k1, st, r1⟩ := x
    have S1 := S'.step st r1
    have y1 := y.trans st.l S S'
    cases t with
    | false => exact wpAny_execs_nil ⟨φ1, η1, y1, loc', S1, k1⟩
    | true =>
      refine wpAny_mono (h₂ A L φ1 η1 loc' s1 _ _ _ _ hA S1 k1) (fun fl s2 z => ?_) fun _ _ z => z.elim
      obtain ⟨φ2, η2, y2, z⟩ := z
      have y3 := y1.trans y2 S S1
      cases fl with
      | next => obtain ⟨loc2, S2, k2⟩ := z; exact ⟨k, Nat.lt_succ_self _, φ2, η2, loc2, y3, S2, k2⟩
      | cont => obtain ⟨loc2, S2, k2⟩ := z; exact ⟨k, Nat.lt_succ_self _, φ2, η2, loc2, y3, S2, k2⟩
      | brk => exact ⟨φ2, η2, y3, z⟩
      | ret u => exact ⟨φ2, η2, y3, z⟩

-- for
def outs : List String := ["enumerate", "zip", "dict_itemiterator", "dict_reverseitemiterator", "odict_iterator", "itertools.zip_longest", "itertools.pairwise"]
def ItAt (it : Addr) (h : Heap) : Prop := ∃ o T vs, h.get? it = some o ∧ ¬ Im o ∧ o.cls = .type T ∧ o.data = .fields vs ∧ outs.contains T = false
structure TgtOk (G : Base) (f : Fx) (tgt : Tgt) (target : Expr) : Prop where
  as : ∀ A L φ η loc s v u (k : Loc → Bool) (Q : Unit → Shared → Prop), A.handled = none → SR G f φ η L loc s → VR φ s.heap v u → tgt v loc k = true →
    (∀ loc' s', SR G f φ η L loc' s' → StepL L φ φ s s' → k loc' = true → Q () s') → wpAny G.M A (assign target (f.env L) u) Q NoE s
  go : ∀ A it u (s : Shared) (Q : Unit → Shared → Prop), ItAt it s.heap → Q () s → wpAny G.M A (letOwnedTupleGo target (.ref it) u) Q NoE s
theorem tgt_var {i : Nat} {nm : Str} {p : Pos} (ok : f.Ok) (hn : f.names[i]? = some nm) : TgtOk G f (tvar i) (.Name nm p) := by
  refine ⟨fun A L φ η loc s v u k Q _ S hv hk q => ?_, fun A it u s Q _ q => wpAny_pure q⟩
  have hk : setK v loc i k = true := hk
  rw [setK_eq] at hk
  exact wpAny_assign_Name (store_wp ok S hn hv fun s1 S1 st1 => q _ _ S1 st1 hk)
theorem tgt_tup {is : List Nat} {elts : List Expr} {j : Nat} {p : Pos} (ok : f.Ok)
    (he : ∀ (j : Nat) (x : Expr), elts[j]? = some x → ∃ (i : Nat) (nm : Str) (p : Pos), is[j]? = some i ∧ f.names[i]? = some nm ∧ x = Expr.Name nm p) (hl : elts.length = is.length) : TgtOk G f (ttup is) (.Tuple elts j p) := by
  refine ⟨fun A L φ η loc s v u k Q hh S hv hk q => ?_, fun A it u s Q x q => ?_⟩
  · obtain ⟨vs, rfl, hk1⟩ := asTup_of hk
    exact tup_wp ok hh he hl S hv hk1 q
  · cases u with
    | ref a =>
      obtain ⟨o, T, vs, ho, hi, hc, hd, hT⟩ := x
      unfold letOwnedTupleGo
      refine wpAny_bind (wpAny_load ho ?_)
      rw [hc, hd]
      show wpAny _ A (if (outs.contains T && vs[0]? == some (rawInt a)) = true then _ else _) Q NoE s
      rw [hT, Bool.false_and, if_neg (by decide)]
      exact wpAny_pure q
    | _ => exact wpAny_pure q

theorem SR.iter {φ : Phi} {η : H} {L it : Addr} {loc : Loc} {s : Shared} {h' : Heap} {tk : Nat} (S : SR G f φ η L loc s) (x : Heap.ExtBut it s.heap h') (hi : ItAt it s.heap) (ht : ∀ p ∈ φ, p.2 ≠ it) (hl : it ≠ L)
    (h0 : G.h₀.objs.size ≤ it) (hf : ∀ o, ¬ G.fz it o) : SR G f φ η L loc { s with heap := h', toks := tk } ∧ St s.heap h' := by
  obtain ⟨o, T, vs, ho, hI, -⟩ := hi
  have sto : St s.heap h' := fun b ob e i => by
    by_cases q : b = it
    · subst q; rw [ho] at e; cases e; exact absurd i hI
    · exact x b ob q e
  refine ⟨⟨⟨fun b ob e => ?_, S.hr.len, fun i a d e => ?_, S.hr.above, S.hr.nd, fun b ob e => x b ob (fun q => hf ob (q ▸ e)) (S.hr.frz b ob e), S.hr.aboveF, S.hr.ror⟩, S.above, S.out, S.outF, ?_⟩, sto⟩
  · have : b ≠ it := fun q => by subst q; exact absurd (Heap.lt_size e) (Nat.not_lt.mpr h0)
    exact x b ob this (S.hr.keep b ob e)
  · obtain ⟨ob, hob, -⟩ := (S.hr.obj i a d e).alive
    exact (S.hr.obj i a d e).st (List.prefix_refl _) sto ((x d ob (ht (a, d) (List.mem_of_getElem? e)) hob).trans hob.symm)
  · obtain ⟨m, ⟨o', es, ep, ho', z⟩, hm⟩ := S.fr
    refine ⟨m, ⟨o', es, ep, x L o' (fun q => hl q.symm) ho', z⟩, fun i nm a b => ?_⟩
    obtain ⟨u, c, d⟩ := hm i nm a b
    exact ⟨u, c, d.st (List.prefix_refl _) sto⟩
theorem StepL.iter {φ φ' : Phi} {L it : Addr} {s₀ s : Shared} {h' : Heap} {tk : Nat} (y : StepL L φ φ' s₀ s) (x : Heap.ExtBut it s.heap h') (h0 : s₀.heap.get? it = none) : StepL L φ φ' s₀ { s with heap := h', toks := tk } :=
  ⟨y.pre, fun b o e n l => x b o (fun q => by subst q; rw [h0] at e; cases e) (y.ev b o e n l), y.fresh, y.gens, y.drawn, y.os⟩

structure It (G : Base) (f : Fx) (A : Around) (L it : Addr) (kn : KN) (kr : KR) (tgt : Tgt) (a : XS) (P : Nat → Phi → Heap → Prop) (M : Nat → KN) : Prop where
  alive : ∀ {k φ h}, P k φ h → ItAt it h
  stay : ∀ {k φ φ' h h'}, P k φ h → φ <+: φ' → St h h' → (∀ o, h.get? it = some o → h'.get? it = some o) → P k φ' h'
  next : ∀ k φ η loc s, SR G f φ η L loc s → P k φ s.heap → M k loc η = true →
    wpAny G.M A (pyNext (.ref it)) (fun r s1 => ∃ h' tk, s1 = { s with heap := h', toks := tk } ∧ Heap.ExtBut it s.heap h' ∧ match r with
      | none => kn loc η = true
      | some u => ∃ v k', k = k' + 1 ∧ P k' φ h' ∧ VR φ s.heap v u ∧ tgt v loc (fun l => a l η (M k') kr kn (M k')) = true) NoE s

theorem for_core {A : Around} {L it : Addr} {kn : KN} {kr : KR} {kb kc : KN} {tgt : Tgt} {target : Expr} {a : XS} {body : List Stmt} {P : Nat → Phi → Heap → Prop} {M : Nat → KN} {R : Result → Shared → Prop}
    (I : It G f A L it kn kr tgt a P M) (T : TgtOk G f tgt target) (hb : BS G f n a body) (hA : Room A n) {φ φ1 : Phi} {η η1 : H} {loc : Loc} {s₀ s1 : Shared} {k : Nat} (S₀ : SR G f φ η L loc s₀)
    (y : StepL L φ φ1 s₀ s1) (S1 : SR G f φ1 η1 L loc s1) (hP : P k φ1 s1.heap) (ht : ∀ p ∈ φ1, p.2 ≠ it) (hl : it ≠ L) (h0 : G.h₀.objs.size ≤ it) (hn : s₀.heap.get? it = none) (hm : M k loc η1 = true)
    (hR : ∀ fl s', PostS G f L φ s₀ kn kr kb kc fl s' → R (.ok fl) s') : codeAny G.M A (.forLoop target (.ref it) body [] (f.env L)) R s1 := by
  have hF : ∀ o, ¬ G.fz it o := fun o e => by have := S₀.hr.frz _ _ e; rw [hn] at this; cases this
  refine codeAny_forLoop_any (fun k s' => ∃ φ' η' loc', StepL L φ φ' s₀ s' ∧ SR G f φ' η' L loc' s' ∧ P k φ' s'.heap ∧ (∀ p ∈ φ', p.2 ≠ it) ∧ M k loc' η' = true) ?_ k ⟨φ1, η1, loc, y, S1, hP, ht, hm⟩
  rintro k s' ⟨φ', η', loc', y, S, hP, ht, hm⟩
  refine wpAny_mono (I.next k φ' η' loc' s' S hP hm) (fun r s2 z => ?_) fun _ _ z => z.elim
  obtain ⟨h', tk, rfl, hx, z⟩ := z
  obtain ⟨S2, sto⟩ := S.iter (tk := tk) hx (I.alive hP) ht hl h0 hF
  have y2 := y.iter (tk := tk) hx hn
  cases r with
  | none => exact wpAny_execs_nil (hR _ _ ⟨φ', η', y2, loc', S2, z⟩)
  | some u =>
    obtain ⟨v, k', rfl, hP', hv, hk⟩ := z
    refine wpAny_mono (T.go A it u _ _ (I.alive hP') ?_) (fun _ _ q => q) fun _ _ z => z.elim
    refine wpAny_mono (T.as A L φ' η' loc' _ v u _ _ hA.handled S2 (hv.st (List.prefix_refl _) sto) hk (fun loc3 s3 S3 y3 hk3 => ?_)) (fun _ _ q => q) fun _ _ z => z.elim
    refine wpAny_mono (hb A L φ' η' loc3 s3 _ _ _ _ hA S3 hk3) (fun fl s4 z => ?_) fun _ _ z => z.elim
    obtain ⟨φ4, η4, y4, z⟩ := z
    have y34 := (y2.trans y3 S₀ S2).trans y4 S₀ S3
    have hit : ∀ o, h'.get? it = some o → s4.heap.get? it = some o := fun o e => y4.ev _ _ (y3.ev _ _ e ht hl) ht hl
    have hP4 : P k' φ4 s4.heap := I.stay hP' y4.pre ((y3.st S2).trans (y4.st S3)) hit
    have ht4 : ∀ p ∈ φ4, p.2 ≠ it := fun p hp q => by
      rcases y4.fresh p hp with h | h
      · exact ht p h q
      · obtain ⟨o, T, vs, ho, -⟩ := I.alive hP'
        have := y3.ev _ _ ho ht hl
        rw [q, this] at h; cases h
    cases fl with
    | next => obtain ⟨loc5, S5, k5⟩ := z; exact ⟨k', Nat.lt_succ_self _, φ4, η4, loc5, y34, S5, hP4, ht4, k5⟩
    | cont => obtain ⟨loc5, S5, k5⟩ := z; exact ⟨k', Nat.lt_succ_self _, φ4, η4, loc5, y34, S5, hP4, ht4, k5⟩
    | brk => exact hR _ _ ⟨φ4, η4, y34, z⟩
    | ret u => exact hR _ _ ⟨φ4, η4, y34, z⟩
end
end Kp
end
-- part KpLoop2
section
set_option autoImplicit false
set_option linter.unusedVariables false
namespace Kp
open PySem PySem.W PyProof.Rows PySem.Calls

section
variable {G : Base} {f : Fx} {n : Nat} {A : Around} {L it : Addr} {kn : KN} {kr : KR} {tgt : Tgt} {a : XS}

-- a tuple
theorem forTup_cons (v : V) (vs : List V) : forTup tgt a kn kr (v :: vs) = fun l h => tgt v l fun l => a l h (forTup tgt a kn kr vs) kr kn (forTup tgt a kn kr vs) := rfl
theorem ItAt.tup {h : Heap} {t : Addr} {i : Nat} (x : IsTupIter h it t i) : ItAt it h := by
  obtain ⟨o, ho, hc, hd⟩ := x
  refine ⟨o, _, _, ho, fun i => ?_, hc, hd, by decide⟩
  rcases i with ⟨i, -⟩ | ⟨i, -⟩ | i
  · rw [hc] at i; exact absurd i (by decide)
  · rw [hc] at i; exact absurd i (by decide)
  · rw [hd] at i; cases i
theorem it_tup (hh : A.handled = none) {t : Addr} {us : List Value} {vs : List V} : It G f A L it kn kr tgt a
    (fun k φ h => k ≤ vs.length ∧ IsTupIter h it t (vs.length - k) ∧ IsTup h t (List.toArray us) ∧ VsR φ h vs us) (fun k => forTup tgt a kn kr (vs.drop (vs.length - k))) := by
  refine ⟨fun x => ItAt.tup x.2.1, fun {k φ φ' h h'} ⟨x1, ⟨o, ho, r⟩, ⟨o2, ho2, hc2, n2, hd2⟩, x4⟩ p st e => ⟨x1, ⟨o, e o ho, r⟩, ⟨o2, st _ _ ho2 (.inl ⟨hc2, _, n2, hd2⟩), hc2, n2, hd2⟩, x4.st p st⟩, ?_⟩
  rintro k φ η loc s S ⟨x1, x2, x3, x4⟩ hm
  have hlen := x4.length
  cases k with
  | zero =>
    rw [Nat.sub_zero, List.drop_length] at hm
    refine next_tuple_end hh x2 x3 (by simp [hlen]) fun h' hx => ⟨h', s.toks, rfl, hx, hm⟩
  | succ k =>
    have hlt : vs.length - (k + 1) < vs.length := by omega
    have e1 : vs.length - (k + 1) + 1 = vs.length - k := by omega
    rw [List.drop_eq_getElem_cons hlt, e1, forTup_cons] at hm
    obtain ⟨u, hu, hv⟩ := x4.get (List.getElem?_eq_getElem hlt)
    refine next_tuple_item x2 x3 (by simpa using hu) fun h' hx hs => ⟨h', s.toks, rfl, hs.extBut, _, k, rfl, ⟨by omega, by rw [← e1]; exact hx, ?_, ?_⟩, hv, hm⟩
    · obtain ⟨o2, ho2, hc2, n2, hd2⟩ := x3
      refine ⟨o2, (hs.2 t fun q => ?_).trans ho2, hc2, n2, hd2⟩
      subst q
      obtain ⟨o, ho, hc, -⟩ := x2
      rw [ho] at ho2; cases ho2
      rw [hc] at hc2; exact absurd hc2 (by decide)
    · refine x4.st (List.prefix_refl _) fun b o e i => (hs.2 b fun q => ?_).trans e
      subst q
      obtain ⟨o', T, vs', ho', hi', -⟩ := ItAt.tup x2
      rw [e] at ho'; cases ho'; exact hi' i

-- a range
theorem forRange_succ (st : Int) (k : Nat) (i : Int) : forRange tgt a kn kr st (k + 1) i = fun l h => tgt (.int i) l fun l => a l h (forRange tgt a kn kr st k (iadd i st)) kr kn (forRange tgt a kn kr st k (iadd i st)) := rfl
theorem ItAt.range {h : Heap} {x y z : Int} (x : IsRangeIter h it x y z) : ItAt it h := by
  refine ⟨_, _, _, x, fun i => ?_, rfl, rfl, by decide⟩
  rcases i with ⟨i, -⟩ | ⟨i, -⟩ | i
  · exact absurd (show Value.type "range_iterator" = Value.type "tuple" from i) (by decide)
  · exact absurd (show Value.type "range_iterator" = Value.type "range" from i) (by decide)
  · cases i
theorem rcount_eq {x y z : Int} (h : 0 < z ∨ z = -1) : (rcount x y z : Int) = Builtin.Range.rangeSize x y z := by
  rcases h with h | rfl
  · obtain ⟨n, rfl⟩ := Int.eq_ofNat_of_zero_le (Int.le_of_lt h)
    show ((Int.toNat (Int.fdiv (iadd (iadd (iadd y (ineg x)) (n : Int)) (.negSucc 0)) (n : Int)) : Nat) : Int) = _
    unfold Builtin.Range.rangeSize
    rw [iadd_eq, iadd_eq, iadd_eq, ineg_eq, if_pos h, Int.fdiv_eq_ediv_of_nonneg _ (Int.le_of_lt h)]
    by_cases q : x < y
    · rw [if_pos q]
      have e : y + -x + (n : Int) + Int.negSucc 0 = (y - x - 1) + (n : Int) := by omega
      have h0 : 0 ≤ (y - x - 1) / (n : Int) := Int.ediv_nonneg (by omega) (by omega)
      rw [e, Int.add_ediv_of_dvd_right (Int.dvd_refl _), Int.ediv_self (by omega)]
      omega
    · rw [if_neg q]
      have e : y + -x + (n : Int) + Int.negSucc 0 < n := by omega
      have : (y + -x + (n : Int) + Int.negSucc 0) / (n : Int) ≤ 0 := by
        have := (Int.ediv_lt_iff_lt_mul h (a := y + -x + (n : Int) + Int.negSucc 0) (b := 1)).mpr (by omega)
        omega
      omega
  · show ((Int.toNat (Int.fdiv (iadd (iadd (iadd x (ineg y)) (ineg (-1))) (.negSucc 0)) (ineg (-1))) : Nat) : Int) = _
    unfold Builtin.Range.rangeSize
    rw [iadd_eq, iadd_eq, iadd_eq, ineg_eq, ineg_eq, Int.neg_neg, Int.fdiv_one]
    simp only [show ¬ ((-1 : Int) > 0) by decide, if_false, Int.neg_neg, Int.ediv_one]
    split <;> omega
theorem it_range (hh : A.handled = none) {x z : Int} {N : Nat} (hz : 0 < z ∨ z = -1) : It G f A L it kn kr tgt a
    (fun k φ h => k ≤ N ∧ IsRangeIter h it (x + ((N : Int) - k) * z) k z) (fun k => forRange tgt a kn kr z k (x + ((N : Int) - k) * z)) := by
  refine ⟨fun x => ItAt.range x.2, fun {k φ φ' h h'} x p st e => ⟨x.1, e _ x.2⟩, ?_⟩
  rintro k φ η loc s S ⟨x1, x2⟩ hm
  cases k with
  | zero => exact wpAny_pyNext_range_end hh x2 (by simp) fun h' hx => ⟨h', s.toks, rfl, hx, hm⟩
  | succ k =>
    rw [forRange_succ, iadd_eq] at hm
    have e : x + ((N : Int) - ((k + 1 : Nat) : Int)) * z + z = x + ((N : Int) - k) * z := by
      have e3 : (N : Int) - k = ((N : Int) - ((k + 1 : Nat) : Int)) + 1 := by omega
      rw [e3, Int.add_mul, Int.one_mul]; omega
    rw [e] at hm
    refine wpAny_pyNext_range_item x2 (by omega) fun h' hx hs => ⟨h', _, rfl, hs.extBut, _, k, rfl, ⟨by omega, ?_⟩, VR.mkInt _ _, hm⟩
    rw [e] at hx
    have e2 : ((k + 1 : Nat) : Int) - 1 = (k : Int) := by omega
    rw [e2] at hx
    exact hx

-- a list
theorem forList_succ (nn k i : Nat) (l : Loc) (h : H) : forList tgt a kn kr nn (k + 1) i l h = objCase (getT h nn) (fun xs => @List.rec V (fun _ => Bool) (kn l h) (fun v _ _ => tgt v l fun l => a l h (forList tgt a kn kr nn k (Nat.succ i)) kr kn (forList tgt a kn kr nn k (Nat.succ i))) (dropV xs i)) (fun _ _ => false) (fun _ => false) := rfl
theorem ItAt.list {h : Heap} {t : Addr} {i : Nat} (x : h.IsListIter it t i) : ItAt it h := by
  obtain ⟨o, ho, hc, hd⟩ := x
  refine ⟨o, _, _, ho, fun i => ?_, hc, hd, by decide⟩
  rcases i with ⟨i, -⟩ | ⟨i, -⟩ | i
  · rw [hc] at i; exact absurd i (by decide)
  · rw [hc] at i; exact absurd i (by decide)
  · rw [hd] at i; cases i
theorem it_list (hh : A.handled = none) {nn N : Nat} {d : Addr} : It G f A L it kn kr tgt a
    (fun k φ h => k ≤ N ∧ h.IsListIter it d (N - k) ∧ φ[nn]? = some (d, d)) (fun k => forList tgt a kn kr nn k (N - k)) := by
  refine ⟨fun x => ItAt.list x.2.1, fun {k φ φ' h h'} ⟨x1, ⟨o, ho, r⟩, x3⟩ p st e => ⟨x1, ⟨o, e o ho, r⟩, pre_get p x3⟩, ?_⟩
  rintro k φ η loc s S ⟨x1, x2, x3⟩ hm
  cases k with
  | zero => cases hm
  | succ k =>
    have e1 : N - (k + 1) + 1 = N - k := by omega
    rw [forList_succ, getT_eq] at hm
    rcases obj_of hm with ⟨xs, eo, q⟩ | ⟨ep, kvs, eo, q⟩ | ⟨fs, eo, q⟩
    · obtain ⟨_, us, hl, hu⟩ := S.hr.list x3 eo
      have hlen := hu.length
      rw [dropV_eq] at q
      by_cases hlt : N - (k + 1) < xs.length
      · rw [List.drop_eq_getElem_cons hlt] at q
        obtain ⟨u, hu1, hv⟩ := hu.get (List.getElem?_eq_getElem hlt)
        have q : tgt xs[N - (k + 1)] loc (fun l => a l η (forList tgt a kn kr nn k (Nat.succ (N - (k + 1)))) kr kn (forList tgt a kn kr nn k (Nat.succ (N - (k + 1))))) = true := q
        rw [show Nat.succ (N - (k + 1)) = N - k from e1] at q
        exact wpAny_pyNext_list_item x2 hl.isList (by simpa using hu1) fun h' hx hs => ⟨h', s.toks, rfl, hs.extBut, _, k, rfl, ⟨by omega, by rw [← e1]; exact hx, x3⟩, hv, q⟩
      · rw [List.drop_eq_nil_of_le (by omega)] at q
        exact wpAny_pyNext_list_end hh x2 hl.isList (by simp [hlen]; omega) fun h' hx => ⟨h', s.toks, rfl, hx, q⟩
    · cases q
    · cases q

-- a dict of tuples
abbrev dictObj (G : Base) (xs : List (List Int × Addr × Value)) (ep : Nat) : Obj := { cls := .type "dict", data := .dict (List.toArray (xs.map (entryOfKey G.knd))) ep }
theorem iter_dictP {E : Value → Shared → Prop} {s : Shared} {d : Addr} {xs : List (List Int × Addr × Value)} {ep : Nat} {Q : Value → Shared → Prop} (hd : (d == sysModules) = false) (ho : s.heap.get? d = some (dictObj G xs ep))
    (hQ : Q (.ref s.heap.objs.size) { s with heap := s.heap.push { cls := .type "dict_keyiterator", data := .fields #[.ref d, .int 0 0, .int xs.length 0, .int ep 0] } }) : wpAny G.M A (pyIter (.ref d)) Q E s := by
  have hT : s.TypeIs (.ref d) "dict" := ⟨_, ho, rfl⟩
  refine wpAny_pyIter_slot hT F.slot_dict_iter (wpAny_call_entry F.slot_dict_iter hT F.entry_dict_iter ?_ (F.args_dict_iter_1 _))
  unfold Builtin.«dict.__iter__»
  refine wpAny_bind ?_
  unfold Builtin.Dict.dictSlotNone
  refine wpAny_bind (wpAny_notOrdered_dict hT ?_)
  show wpAny _ _ (pure (Value.ref d)) _ _ s
  refine wpAny_pure ?_
  show wpAny _ _ (Builtin.Dict.showsAll d >>= _) _ _ s
  unfold Builtin.Dict.showsAll
  rw [if_neg (by rw [hd]; exact Bool.false_ne_true)]
  refine wpAny_bind (wpAny_pure ?_)
  refine wpAny_bind (wpAny_dictEntries ho rfl ?_)
  refine wpAny_bind (wpAny_dictEpoch ho rfl ?_)
  refine wpAny_bind (wpAny_newObj_type (wpAny_pure ⟨_, rfl, "dict_keyiterator", _, ⟨_, Heap.get?_push_size _ rfl, rfl⟩, F.slot_dict_keyiterator_next.lookup, ?_⟩))
  simpa [rawInt] using hQ
theorem next_dictP {E : Value → Shared → Prop} {s : Shared} {d : Addr} {i ep : Nat} {xs : List (List Int × Addr × Value)} {x : List Int × Addr × Value} {Q : Option Value → Shared → Prop} (hit : s.heap.IsKeyIter it d i xs.length ep)
    (hod : s.heap.get? d = some (dictObj G xs ep)) (hx : xs[i]? = some x)
    (hQ : ∀ h', h'.IsKeyIter it d (i + 1) xs.length ep → Heap.SameBut it s.heap h' → Q (some (.ref x.2.1)) { s with heap := h' }) : wpAny G.M A (pyNext (.ref it)) Q E s := by
  obtain ⟨o, ho, hc, hd⟩ := id hit
  unfold pyNext
  refine wpAny_bind (wpAny_attempt (wpAny_callSpecial?_slot (name := Str.ofString "__next__") hit.typeIs F.slot_dict_keyiterator_next
    (wpAny_call_entry F.slot_dict_keyiterator_next hit.typeIs F.entry_dict_keyiterator_next ?_ (F.args_dict_keyiterator_next_1 _))))
  refine wpAny_bind (wpAny_pure ?_)
  refine wpAny_bind ?_
  refine wpAny_bind ?_
  first | refine wpAny_bind (wpAny_typeNameOfWhole_keyiter hit.typeIs (wpAny_pure ?_)) | refine wpAny_bind (wpAny_typeNameOf_keyiter hit.typeIs (wpAny_pure ?_))
  refine wpAny_bind (wpAny_fieldsOf ho hd ?_)
  have hown : Builtin.Dict_items.ownsTuple "dict_keyiterator" = false := by decide
  simp only [hown, Bool.false_eq_true, if_false]
  show wpAny _ _ (if (Value.ref d == Value.none) = true then _ else _) _ _ s
  rw [if_neg (show ¬ ((Value.ref d == Value.none) = true) from Bool.false_ne_true)]
  refine wpAny_bind (wpAny_pure ?_)
  refine wpAny_bind (wpAny_dictEntries hod rfl ?_)
  have hsz : (List.toArray (xs.map (entryOfKey G.knd))).size = xs.length := by simp
  rw [if_neg (by rw [hsz]; simp)]
  refine wpAny_bind (wpAny_pure ?_)
  refine wpAny_bind (wpAny_dictEpoch hod rfl ?_)
  rw [if_neg (by simp)]
  refine wpAny_pure ?_
  have hge : (List.toArray (xs.map (entryOfKey G.knd)))[i]? = some (entryOfKey G.knd x) := by simp [hx]
  simp only [show ¬ ((i : Int) < 0) from by omega, if_false, Int.toNat_natCast, hge]
  refine wpAny_bind ?_
  first | refine wpAny_bind (wpAny_typeNameOfWhole_keyiter hit.typeIs (wpAny_pure ?_)) | refine wpAny_bind (wpAny_typeNameOf_keyiter hit.typeIs (wpAny_pure ?_))
  refine wpAny_bind (wpAny_isOneOf_keyiter hit.typeIs ?_)
  show wpAny _ _ (setField (.ref it) 1 (rawInt ((i : Int) + 1)) >>= _) _ _ s
  refine wpAny_bind (wpAny_setField ho hd (by simp) ?_)
  have hit' : (s.heap.update it (Obj.mapFields (·.setIfInBounds 1 (rawInt ((i : Int) + 1))))).IsKeyIter it d (i + 1) xs.length ep :=
    ⟨_, Heap.get?_update_self _ ho (Obj.isFreed_of_fields (Obj.data_mapFields hd _)), (Obj.cls_mapFields ..).trans hc, by rw [Obj.data_mapFields hd]; simp [rawInt]⟩
  refine wpAny_bind (wpAny_holding ?_)
  refine wpAny_bind (wpAny_isOneOf_keyiter (s := { s with heap := s.heap.update it (Obj.mapFields (·.setIfInBounds 1 (rawInt ((i : Int) + 1)))) }) hit'.typeIs ?_)
  show wpAny _ _ (pure (entryOfKey G.knd x).key) _ _ _
  exact wpAny_pure (wpAny_pure ⟨_, rfl, wpAny_pure (hQ _ hit' (Heap.SameBut.update ..))⟩)
theorem end_dictP {E : Value → Shared → Prop} {s : Shared} {d : Addr} {i ep : Nat} {xs : List (List Int × Addr × Value)} {Q : Option Value → Shared → Prop} (hh : A.handled = none) (hit : s.heap.IsKeyIter it d i xs.length ep)
    (hod : s.heap.get? d = some (dictObj G xs ep)) (hx : xs[i]? = none)
    (hQ : ∀ h', Heap.ExtBut it s.heap h' → Q none { s with heap := h' }) : wpAny G.M A (pyNext (.ref it)) Q E s := by
  obtain ⟨o, ho, hc, hd⟩ := id hit
  unfold pyNext
  refine wpAny_bind (wpAny_attempt (wpAny_callSpecial?_slot (name := Str.ofString "__next__") hit.typeIs F.slot_dict_keyiterator_next
    (wpAny_call_entry F.slot_dict_keyiterator_next hit.typeIs F.entry_dict_keyiterator_next ?_ (F.args_dict_keyiterator_next_1 _))))
  refine wpAny_bind (wpAny_pure ?_)
  refine wpAny_bind ?_
  refine wpAny_bind ?_
  first | refine wpAny_bind (wpAny_typeNameOfWhole_keyiter hit.typeIs (wpAny_pure ?_)) | refine wpAny_bind (wpAny_typeNameOf_keyiter hit.typeIs (wpAny_pure ?_))
  refine wpAny_bind (wpAny_fieldsOf ho hd ?_)
  have hown : Builtin.Dict_items.ownsTuple "dict_keyiterator" = false := by decide
  simp only [hown, Bool.false_eq_true, if_false]
  show wpAny _ _ (if (Value.ref d == Value.none) = true then _ else _) _ _ s
  rw [if_neg (show ¬ ((Value.ref d == Value.none) = true) from Bool.false_ne_true)]
  refine wpAny_bind (wpAny_pure ?_)
  refine wpAny_bind (wpAny_dictEntries hod rfl ?_)
  have hsz : (List.toArray (xs.map (entryOfKey G.knd))).size = xs.length := by simp
  rw [if_neg (by rw [hsz]; simp)]
  refine wpAny_bind (wpAny_pure ?_)
  refine wpAny_bind (wpAny_dictEpoch hod rfl ?_)
  rw [if_neg (by simp)]
  refine wpAny_pure ?_
  have hge : (List.toArray (xs.map (entryOfKey G.knd))).size ≤ i := by rw [hsz]; simpa using hx
  simp only [show ¬ ((i : Int) < 0) from by omega, if_false, Int.toNat_natCast, Array.getElem?_eq_none hge]
  refine wpAny_bind ?_
  first | refine wpAny_bind (wpAny_typeNameOfWhole_keyiter hit.typeIs (wpAny_pure ?_)) | refine wpAny_bind (wpAny_typeNameOf_keyiter hit.typeIs (wpAny_pure ?_))
  show wpAny _ _ (setField (.ref it) 0 .none >>= _) _ _ s
  refine wpAny_bind (wpAny_setField ho hd (by simp) ?_)
  show wpAny _ _ (newExc (.type "StopIteration") [] >>= _) _ _ _
  refine wpAny_bind ?_
  simp only [newExc, newTuple]
  refine wpAny_bind (wpAny_newObj_type ?_ (by size_fits))
  refine wpAny_bind (m := firstArgMember _ _) (wpAny_of_eq (a := Value.none) (by first | rfl | (simp only [firstArgMember]; rfl)) ?_)
  refine wpAny_newObj_type ?_ (by size_fits)
  simp only [raiseNew]
  refine wpAny_bind (wpAny_handled ?_)
  rw [show A.in1.handled = none from hh]
  refine wpAny_bind (wpAny_pure (wpAny_throw ?_))
  refine wpAny_bind (wpAny_isInstance (T := "StopIteration") (b := true) ⟨_, Heap.get?_push_size _ rfl, rfl⟩ isSubtype_stop ?_)
  exact wpAny_pure (hQ _ (((Heap.SameBut.update ..).extBut.push _).push _))
end
end Kp
end
-- part KpLoop3
section
set_option autoImplicit false
set_option linter.unusedVariables false
namespace Kp
open PySem PySem.W PyProof.Rows PySem.Calls

section
variable {G : Base} {f : Fx} {n : Nat} {A : Around} {L it : Addr} {kn : KN} {kr : KR} {tgt : Tgt} {a : XS}
theorem forDict_succ (nn ep k i : Nat) (l : Loc) (h : H) : forDict tgt a kn kr nn ep (k + 1) i l h = objCase (getT h nn) (fun _ => false) (fun ep' kvs => bcase (Nat.beq ep ep') (bcase (Nat.beq (lenD kvs) (Nat.add k i)) (keyAt kvs (kn l h) i fun v => tgt v l fun l => a l h (forDict tgt a kn kr nn ep k (Nat.succ i)) kr kn (forDict tgt a kn kr nn ep k (Nat.succ i))) false) false) (fun _ => false) := rfl
theorem ItAt.dict {h : Heap} {t : Addr} {i m ep : Nat} (x : h.IsKeyIter it t i m ep) : ItAt it h := by
  obtain ⟨o, ho, hc, hd⟩ := x
  refine ⟨o, _, _, ho, fun i => ?_, hc, hd, by decide⟩
  rcases i with ⟨i, -⟩ | ⟨i, -⟩ | i
  · rw [hc] at i; exact absurd i (by decide)
  · rw [hc] at i; exact absurd i (by decide)
  · rw [hd] at i; cases i
theorem vsr_of_items {φ : Phi} {h : Heap} {ks : List Int} {us : List Value} (x : ItemsAre (intKind G.prog G.w) ks us) : VsR φ h (ks.map V.int) us := by
  induction x with
  | nil => rfl
  | @cons k v ks vs h1 h2 ih =>
    have h1 : Value.isInt k v = true := h1
    have : ∃ t, v = .int k t := by
      cases v with
      | int i t => exact ⟨t, by rw [show i = k from by simpa [Value.isInt] using h1]⟩
      | _ => cases h1
    exact VsR.cons this ih
theorem keyAt_of : ∀ {kvs : List (V × V)} {xs : List (List Int × Addr × Value)} {φ : Phi} {h : Heap} {no : Bool} {i : Nat} {k : V → Bool}, DR G φ h kvs xs → keyAt kvs no i k = true →
    (xs[i]? = none ∧ no = true) ∨ ∃ x v, xs[i]? = some x ∧ VR φ h v (.ref x.2.1) ∧ k v = true
  | [], xs, φ, h, no, i, k, r, q => by rw [show xs = [] from r]; exact .inl ⟨rfl, q⟩
  | (p1, p2) :: kvs, xs, φ, h, no, 0, k, ⟨ks, y, s, e, a1, a2, a3, r⟩, q => by
    subst e
    refine .inr ⟨_, p1, rfl, ?_, q⟩
    dsimp only at a1
    subst a1
    obtain ⟨o, its, m, ho, hc, hd, hi⟩ := a2
    refine ⟨y.1, its.toList, rfl, ⟨o, ho, hc, m, by simpa using hd⟩, ?_⟩
    exact vsr_of_items (by simpa using hi)
  | p :: kvs, xs, φ, h, no, i + 1, k, ⟨ks, y, s, e, a1, a2, a3, r⟩, q => by
    subst e
    have q : keyAt kvs no i k = true := q
    have z := keyAt_of (i := i) (k := k) (no := no) r q
    simpa using z
theorem it_dict (hh : A.handled = none) {nn N ep : Nat} {d : Addr} : It G f A L it kn kr tgt a
    (fun k φ h => k ≤ N + 1 ∧ h.IsKeyIter it d (N + 1 - k) N ep ∧ φ[nn]? = some (d, d)) (fun k => forDict tgt a kn kr nn ep k (N + 1 - k)) := by
  refine ⟨fun x => ItAt.dict x.2.1, fun {k φ φ' h h'} ⟨x1, ⟨o, ho, r⟩, x3⟩ p st e => ⟨x1, ⟨o, e o ho, r⟩, pre_get p x3⟩, ?_⟩
  rintro k φ η loc s S ⟨x1, x2, x3⟩ hm
  cases k with
  | zero => cases hm
  | succ k =>
    have e1 : N + 1 - (k + 1) + 1 = N + 1 - k := by omega
    rw [forDict_succ, getT_eq] at hm
    rcases obj_of hm with ⟨xs, eo, q⟩ | ⟨ep', kvs, eo, q⟩ | ⟨fs, eo, q⟩
    · cases q
    · obtain ⟨q1, q2⟩ := bc_of q
      obtain ⟨q3, q4⟩ := bc_of q2
      obtain rfl := Nat.eq_of_beq_eq_true q1
      have q3 := Nat.eq_of_beq_eq_true q3
      rw [lenD_eq] at q3
      have q3 : kvs.length = k + (N + 1 - (k + 1)) := q3
      obtain ⟨_, xs, ho, hn, hd⟩ := S.hr.dict x3 eo
      have hlen := hd.length
      have hN : xs.length = N := by omega
      rw [← hN] at x2
      rcases keyAt_of hd q4 with ⟨hx, hk⟩ | ⟨x, v, hx, hv, hk⟩
      · rw [← hN] at hx
        exact end_dictP hh x2 ho hx fun h' hx => ⟨h', s.toks, rfl, hx, hk⟩
      · rw [show Nat.succ (N + 1 - (k + 1)) = N + 1 - k from e1] at hk
        rw [← hN] at hx
        refine next_dictP x2 ho hx fun h' hy hs => ⟨h', s.toks, rfl, hs.extBut, v, k, rfl, ⟨by omega, ?_, x3⟩, hv, hk⟩
        rw [hN, e1] at hy
        exact hy
    · cases q
end

section
variable {G : Base} {f : Fx} {n : Nat}
theorem SR.alloc0 {φ : Phi} {η : H} {L : Addr} {loc : Loc} {s : Shared} (S : SR G f φ η L loc s) (o : Obj) : SR G f φ η L loc { s with heap := s.heap.push o } ∧ Step φ φ s { s with heap := s.heap.push o } := by
  have kp : ∀ b ob, s.heap.get? b = some ob → (s.heap.push o).get? b = some ob := fun b ob e => Heap.get?_push_of_some _ e
  have st : Step φ φ s { s with heap := s.heap.push o } := Step.same kp rfl rfl rfl
  exact ⟨S.step st (S.hr.grow kp), st⟩
theorem ss_for {tgt : Tgt} {target : Expr} {m : XE} {iter : Expr} {a : XS} {body : List Stmt} {pos : Pos} (T : TgtOk G f tgt target) (h₁ : ES G f n m iter) (h₂ : BS G f n a body)
    (hs : ∀ env x, foldedSetIterable iter env x = pure x := by intro _ _; rfl) : SS G f n (sfor tgt m a) (.For target iter body [] pos) := by
  intro A L φ η loc s kn kr kb kc hA S h
  refine wpAny_For (hs := hs _) (h₁.thenS hA S h fun u v η1 φ1 s1 hk hv st S1 => ?_)
  have big := Nat.le_of_lt S1.big
  have fresh : s.heap.get? s1.heap.objs.size = none := by
    cases q : s.heap.get? s1.heap.objs.size with
    | none => rfl
    | some o =>
      exfalso
      by_cases c : ∀ p ∈ φ, p.2 ≠ s1.heap.objs.size
      · exact absurd (Heap.lt_size (st.ev _ _ q c)) (Nat.lt_irrefl _)
      · simp only [ne_eq, Classical.not_forall, Classical.not_not] at c
        obtain ⟨p, hp, e⟩ := c
        have := S1.hr.lt (st.pre.subset hp)
        rw [e] at this; exact absurd this (Nat.lt_irrefl _)
  have notIn : ∀ p ∈ φ1, p.2 ≠ s1.heap.objs.size := fun p hp q => by
    have := S1.hr.lt hp
    rw [q] at this; exact absurd this (Nat.lt_irrefl _)
  have notL : s1.heap.objs.size ≠ L := by
    obtain ⟨o, es, ep, ho, -⟩ := S1.alive
    exact Nat.ne_of_gt (Heap.lt_size ho)
  cases v with
  | ref nn =>
    obtain ⟨d, d', ej, rfl⟩ := hv
    have hk : objCase (getT η1 nn) (fun xs => forList tgt a kn kr nn (Nat.succ (lenV xs)) 0 loc η1) (fun ep kvs => forDict tgt a kn kr nn ep (Nat.succ (lenD kvs)) 0 loc η1) (fun _ => false) = true := hk
    rw [getT_eq] at hk
    rcases obj_of hk with ⟨xs, eo, q⟩ | ⟨ep, kvs, eo, q⟩ | ⟨fs, eo, q⟩
    · obtain ⟨rfl, us, hl, hu⟩ := S1.hr.list ej eo
      obtain ⟨S2, st2⟩ := S1.alloc0 { cls := .type "list_iterator", data := .fields #[.ref d, .int 0 0] }
      refine wpAny_pyIter_list hl.isList (for_core (it_list hA.handled (N := Nat.succ (lenV xs)) (nn := nn) (d := d)) T h₂ hA (kb := kb) (kc := kc) (k := Nat.succ (lenV xs)) S (st.trans st2 S.hr S1.hr).l S2 ⟨Nat.le_refl _, ?_, ej⟩ notIn notL big fresh ?_ fun fl s' z => z)
      · rw [Nat.sub_self]; exact ⟨_, Heap.get?_push_size _ rfl, rfl, rfl⟩
      · rw [Nat.sub_self]; exact q
    · obtain ⟨rfl, xs, ho, hn, hd⟩ := S1.hr.dict ej eo
      have hlen := hd.length
      obtain ⟨S2, st2⟩ := S1.alloc0 { cls := .type "dict_keyiterator", data := .fields #[.ref d, .int 0 0, .int xs.length 0, .int ep 0] }
      rw [lenD_eq, hlen] at q
      refine iter_dictP (S1.hr.notMod ej) ho (for_core (it_dict hA.handled (N := xs.length) (nn := nn) (d := d) (ep := ep)) T h₂ hA (kb := kb) (kc := kc) (k := xs.length + 1) S (st.trans st2 S.hr S1.hr).l S2 ⟨Nat.le_refl _, ?_, ej⟩ notIn notL big fresh ?_ fun fl s' z => z)
      · rw [Nat.sub_self]; exact ⟨_, Heap.get?_push_size _ rfl, rfl, rfl⟩
      · rw [Nat.sub_self]; exact q
    · cases q
  | tup vs =>
    obtain ⟨t, us, rfl, ht, hu⟩ := hv
    have hk : forTup tgt a kn kr vs loc η1 = true := hk
    obtain ⟨S2, st2⟩ := S1.alloc0 { cls := .type "tuple_iterator", data := .fields #[.ref t, .int 0 0] }
    refine iter_tuple ht (for_core (it_tup hA.handled (vs := vs) (us := us) (t := t)) T h₂ hA (kb := kb) (kc := kc) (k := vs.length) S (st.trans st2 S.hr S1.hr).l S2 ⟨Nat.le_refl _, ?_, ?_, hu.st st2.pre (S1.st st2)⟩ notIn notL big fresh ?_ fun fl s' z => z)
    · rw [Nat.sub_self]; exact ⟨_, Heap.get?_push_size _ rfl, rfl, rfl⟩
    · obtain ⟨o, ho, r⟩ := ht
      exact ⟨o, Heap.get?_push_of_some _ ho, r⟩
    · rw [Nat.sub_self]; exact hk
  | range x y z =>
    obtain ⟨r, t, tu, tv, rfl, hr, hsm, hz⟩ := hv
    have hk : forRange tgt a kn kr z (rcount x y z) x loc η1 = true := hk
    obtain ⟨S2, st2⟩ := S1.alloc0 { cls := .type "range_iterator", data := .fields #[rawInt x, rawInt (Builtin.Range.rangeSize x y z), rawInt z] }
    have e0 : x + (((rcount x y z : Nat) : Int) - ((rcount x y z : Nat) : Int)) * z = x := by rw [Int.sub_self, Int.zero_mul, Int.add_zero]
    refine wpAny_pyIter_range hr hsm (for_core (it_range hA.handled (x := x) (N := rcount x y z) hz) T h₂ hA (kb := kb) (kc := kc) (k := rcount x y z) S (st.trans st2 S.hr S1.hr).l S2 ⟨Nat.le_refl _, ?_⟩ notIn notL big fresh ?_ fun fl s' z => z)
    · rw [e0, rcount_eq hz]; exact Heap.get?_push_size _ rfl
    · rw [e0]; exact hk
  | _ => cases hk
end
end Kp
end
-- part KpFn
section
set_option autoImplicit false
set_option linter.unusedVariables false
namespace Kp
open PySem PySem.W PyProof.Rows PySem.Calls

section
variable {G : Base} {f : Fx} {n : Nat}
-- a function, from its body
theorem zip_lookup : ∀ (ns : List Str) (us : List Value) (i : Nat) (nm : Str) (u : Value), ns.Nodup → ns[i]? = some nm → us[i]? = some u → (ns.zip us).lookup nm = some u
  | [], _, i, nm, u, _, e, _ => by simp at e
  | x :: r, [], i, nm, u, _, _, e => by simp at e
  | x :: r, y :: s, 0, nm, u, _, e1, e2 => by
    simp only [List.getElem?_cons_zero, Option.some.injEq] at e1 e2
    subst e1; subst e2
    simp [List.lookup]
  | x :: r, y :: s, i + 1, nm, u, hn, e1, e2 => by
    simp only [List.getElem?_cons_succ] at e1 e2
    rw [List.nodup_cons] at hn
    have : (nm == x) = false := beq_false_of_ne fun q => hn.1 (by rw [← q]; exact List.mem_of_getElem? e1)
    rw [List.zip_cons_cons, List.lookup_cons, this]
    exact zip_lookup r s i nm u hn.2 e1 e2
theorem lookup_none : ∀ (l : List (Str × Value)) (x : Str), x ∉ l.map (·.1) → l.lookup x = none
  | [], _, _ => rfl
  | (a, b) :: r, x, h => by
    rw [List.map_cons, List.mem_cons, not_or] at h
    rw [List.lookup_cons, beq_false_of_ne h.1]
    exact lookup_none r x h.2
theorem lookup_app : ∀ (l : List (Str × Value)) (a x : Str) (b : Value), (l ++ [(a, b)]).lookup x = match l.lookup x with | some v => some v | none => if x = a then some b else none
  | [], a, x, b => by
    rw [List.nil_append, List.lookup_cons]
    by_cases c : x = a
    · subst c; simp [List.lookup]
    · rw [beq_false_of_ne c]; simp [List.lookup, c]
  | (p, q) :: r, a, x, b => by
    rw [List.cons_append, List.lookup_cons, List.lookup_cons]
    cases x == p with
    | true => rfl
    | false => exact lookup_app r a x b
theorem lookup_reverse : ∀ (l : List (Str × Value)) (x : Str), (l.map (·.1)).Nodup → l.reverse.lookup x = l.lookup x
  | [], _, _ => rfl
  | (a, b) :: r, x, h => by
    rw [List.map_cons, List.nodup_cons] at h
    rw [List.reverse_cons, lookup_app, lookup_reverse r x h.2, List.lookup_cons]
    by_cases c : x = a
    · subst c
      rw [lookup_none r x h.1]; simp
    · rw [beq_false_of_ne c]
      cases e : r.lookup x <;> simp [c]
def HE (f : Fx) (is : List Nat) (elts : List Expr) : Prop := ∀ (j : Nat) (x : Expr), elts[j]? = some x → ∃ (i : Nat) (nm : Str) (p : Pos), is[j]? = some i ∧ f.names[i]? = some nm ∧ x = Expr.Name nm p
theorem he_nil : HE f [] [] := fun j x h => by simp at h
theorem he_cons {i : Nat} {is : List Nat} {nm : Str} {p : Pos} {elts : List Expr} (hn : f.names[i]? = some nm) (h : HE f is elts) : HE f (i :: is) (.Name nm p :: elts) := by
  intro j x e
  cases j with
  | zero => exact ⟨i, nm, p, rfl, hn, by simpa using e.symm⟩
  | succ j =>
    simp only [List.getElem?_cons_succ] at e ⊢
    exact h j x e
theorem FS.of {fname : Str} {params : Arguments} {body : List Stmt} {doc pm ct : Value} {an : Option Addr} {fo : Obj} {na : Nat} {unbs : List V} {m : XS} (ok : f.Ok)
    (ho : G.h₀.get? f.a = some fo) (hd : fo.data = .func (fnX fname f.cn params body f.cs [] .none .none doc pm an f.ccd ct)) (hcd : G.h₀.CodeRec f.ccd f.cn)
    (hu : unbs.all (fun v => match v with | .unb => true | _ => false) = true) (hlen : na ≤ f.names.length) (hcell : ∀ x ∈ f.cs.names, x.2 ≠ .cell)
    (hbind : ∀ us : List Value, us.length = na → bindArgs (fnX fname f.cn params body f.cs [] .none .none doc pm an f.ccd ct) ⟨us, []⟩ = pure ((f.names.take na).zip us))
    (hb : f.Ok → BS G f n m body) (hco : f.cs.isCoroutine = false := by rfl) (hgen : f.cs.isGenerator = false := by rfl) : FS G (n + 1) (fn na unbs m) f.a := by
  intro A φ η s vs us k hA r big hv h
  obtain ⟨ha, hm⟩ := bc_of h
  have ha := Nat.eq_of_beq_eq_true ha
  rw [lenV_eq] at ha
  have hul : us.length = na := by rw [hv.length]; exact ha
  have hnd : (((f.names.take na).zip us).map (·.1)).Nodup := by
    have : ((f.names.take na).zip us).map (·.1) = f.names.take na := by
      rw [List.map_fst_zip]
      rw [List.length_take, hul]; omega
    rw [this]
    exact ok.nd.sublist (List.take_sublist _ _)
  refine codeAny_call_def (fd := fnX fname f.cn params body f.cs [] .none .none doc pm an f.ccd ct) (body := body) (binds := (f.names.take na).zip us) (by have := hA.depth; omega) (r.keep _ _ ho) hd
    (G.lim.keeps r.keep) (hcd.keeps r.keep) rfl (BindsTo.of_eq (hbind us hul)) hcell (fun x hx => ?_) (fun h₁ hns hk => ?_) hco hgen ok.kind
  · have : x.1 ∈ f.names.take na := (List.of_mem_zip hx).1
    exact ok.loc _ (List.mem_of_mem_take this)
  · have kp : ∀ b o, s.heap.get? b = some o → h₁.get? b = some o := hk
    have hA' : Room (A.deeper (f.env s.heap.objs.size)) n := ⟨by have := hA.depth; show A.depth + 1 + n < _; omega, by have := hA.units; show A.units + 3 + 8 * n + 16 < _; omega, hA.handled⟩
    have sto : St s.heap h₁ := fun b o e _ => kp b o e
    have S : SR G f φ η s.heap.objs.size (vs ++ unbs) { s with heap := h₁, toks := s.toks + ((f.names.take na).zip us).length } := by
      refine ⟨r.grow kp, big, fun p hp q => ?_, fun o e => absurd (Heap.lt_size (r.frz _ _ e)) (Nat.lt_irrefl _), _, hns, fun i nm hi hne => ?_⟩
      · have := r.lt hp
        rw [q] at this; exact absurd this (Nat.lt_irrefl _)
      · by_cases c : i < vs.length
        · have e1 : getV (vs ++ unbs) i = vs[i] := by rw [getV_eq, List.getElem?_append_left c, List.getElem?_eq_getElem c]; rfl
          rw [e1]
          obtain ⟨u, hu1, hu2⟩ := hv.get (List.getElem?_eq_getElem c)
          refine ⟨u, ?_, hu2.st (List.prefix_refl _) sto⟩
          rw [lookup_reverse _ _ hnd]
          refine zip_lookup _ us i nm u (ok.nd.sublist (List.take_sublist _ _)) ?_ hu1
          rw [List.getElem?_take, if_pos (by omega)]; exact hi
        · exfalso
          apply hne
          rw [getV_eq, List.getElem?_append_right (by omega)]
          cases q : unbs[i - vs.length]? with
          | none => rfl
          | some v =>
            have := List.all_eq_true.mp hu v (List.mem_of_getElem? q)
            cases v <;> first | rfl | cases this
    refine wpAny_mono (hb ok _ s.heap.objs.size φ η (vs ++ unbs) _ _ _ _ _ hA' S hm) (fun fl s' z => ?_) fun _ _ z => z.elim
    obtain ⟨φ', η', y, z⟩ := z
    have st : Step φ φ' s s' := by
      refine ⟨y.pre, fun b o e nn => y.ev b o (kp b o e) nn (Nat.ne_of_lt (Heap.lt_size e)), fun p hp => ?_, y.gens, y.drawn, y.os⟩
      rcases y.fresh p hp with q | q
      · exact .inl q
      · cases c : s.heap.get? p.2 with
        | none => exact .inr rfl
        | some o =>
          have : h₁.get? p.2 = none := q
          rw [kp _ _ c] at this; cases this
    cases fl with
    | next => obtain ⟨loc', S', hk'⟩ := z; exact ⟨.none, η', φ', hk', rfl, st, S'.hr⟩
    | ret u => obtain ⟨v, r', hv', hk'⟩ := z; exact ⟨v, η', φ', hk', hv', st, r'⟩
    | brk => obtain ⟨_, _, hk'⟩ := z; cases hk'
    | cont => obtain ⟨_, _, hk'⟩ := z; cases hk'
end
end Kp
end
-- part KpBody
section
set_option autoImplicit false
namespace Kp
noncomputable section
def sraise : XS := fun _ _ _ _ _ _ => false
-- squares_of: locals ['b', 'out', 'square']
def b_squares_of : XS :=
 (sseq (sset (nat_lit 1) (xlist enil))
 (sseq (sset (nat_lit 2) (xlit (.int (.ofNat (nat_lit 0)))))
 (sseq (swhile (xloc (nat_lit 0))
  (sseq (swhile (xnot (xbin oand (xloc (nat_lit 0)) (xlit (.int (.ofNat (nat_lit 15))))))
   (sseq (saug (nat_lit 0) oshr (xlit (.int (.ofNat (nat_lit 4)))))
   (saug (nat_lit 2) oadd (xlit (.int (.ofNat (nat_lit 4)))))) (nat_lit 64))
  (sseq (sif (xbin oand (xloc (nat_lit 0)) (xlit (.int (.ofNat (nat_lit 1)))))
   (sexpr (xappend (xloc (nat_lit 1)) (xloc (nat_lit 2))))
   spass)
  (sseq (saug (nat_lit 0) oshr (xlit (.int (.ofNat (nat_lit 1)))))
  (saug (nat_lit 2) oadd (xlit (.int (.ofNat (nat_lit 1)))))))) (nat_lit 64))
 (sret (xloc (nat_lit 1))))))
def f_squares_of : Fn := fn (nat_lit 1) [.unb, .unb] b_squares_of

-- pawn_files: locals ['geo']
def b_pawn_files : XS :=
 (sret (xbin odiv (xbin oadd (xattr (xloc (nat_lit 0)) (nat_lit 0)) (xlit (.int (.ofNat (nat_lit 1))))) (xlit (.int (.ofNat (nat_lit 2))))))
def f_pawn_files : Fn := fn (nat_lit 1) [] b_pawn_files

-- pawn_place: locals ['geo', 'pawn']
def b_pawn_place : XS :=
 (sret (xbin osub (xbin oadd (xbin omul (xbin omod (xloc (nat_lit 1)) (xattr (xloc (nat_lit 0)) (nat_lit 0))) (xbin osub (xattr (xloc (nat_lit 0)) (nat_lit 1)) (xlit (.int (.ofNat (nat_lit 2)))))) (xbin odiv (xloc (nat_lit 1)) (xattr (xloc (nat_lit 0)) (nat_lit 0)))) (xlit (.int (.ofNat (nat_lit 1))))))
def f_pawn_place : Fn := fn (nat_lit 2) [] b_pawn_place

-- kpk_size: locals ['geo']
def b_kpk_size : XS :=
 (sret (xbin omul (xbin omul (xbin omul (xbin omul (xcall f_pawn_files (econs (xloc (nat_lit 0)) enil)) (xbin osub (xattr (xloc (nat_lit 0)) (nat_lit 1)) (xlit (.int (.ofNat (nat_lit 2)))))) (xlit (.int (.ofNat (nat_lit 2))))) (xattr (xloc (nat_lit 0)) (nat_lit 2))) (xattr (xloc (nat_lit 0)) (nat_lit 2))))
def f_kpk_size : Fn := fn (nat_lit 1) [] b_kpk_size

-- kpk_index: locals ['geo', 'side', 'strong', 'pawn', 'weak']
def b_kpk_index : XS :=
 (sret (xbin oadd (xbin omul (xbin oadd (xbin omul (xbin oadd (xbin omul (xcall f_pawn_place (econs (xloc (nat_lit 0)) (econs (xloc (nat_lit 3)) enil))) (xlit (.int (.ofNat (nat_lit 2))))) (xloc (nat_lit 1))) (xattr (xloc (nat_lit 0)) (nat_lit 2))) (xloc (nat_lit 4))) (xattr (xloc (nat_lit 0)) (nat_lit 2))) (xloc (nat_lit 2))))
def f_kpk_index : Fn := fn (nat_lit 5) [] b_kpk_index

-- first_result: locals ['geo', 'side', 'strong', 'pawn', 'weak', 'steps', 'guarded', 'held', 'goal']
def b_first_result : XS :=
 (sseq (sset (nat_lit 5) (xsub (xattr (xloc (nat_lit 0)) (nat_lit 9)) (xloc (nat_lit 4))))
 (sseq (sset (nat_lit 6) (xsub (xattr (xloc (nat_lit 0)) (nat_lit 9)) (xloc (nat_lit 2))))
 (sseq (sif (xor (xcmp ceq (xloc (nat_lit 2)) (xloc (nat_lit 3))) (xcmp ceq (xloc (nat_lit 4)) (xloc (nat_lit 3))))
  (sret (xlit (.int (.ofNat (nat_lit 0)))))
  spass)
 (sseq (sset (nat_lit 7) (xsub (xsub (xattr (xloc (nat_lit 0)) (nat_lit 11)) (xlit (.int (.ofNat (nat_lit 0))))) (xloc (nat_lit 3))))
 (sseq (sif (xcmp ceq (xloc (nat_lit 1)) (xlit (.int (.ofNat (nat_lit 0)))))
  (sseq (sif (xbin oand (xbin oshr (xloc (nat_lit 7)) (xloc (nat_lit 4))) (xlit (.int (.ofNat (nat_lit 1)))))
   (sret (xlit (.int (.ofNat (nat_lit 0)))))
   spass)
  (sseq (sset (nat_lit 8) (xbin oadd (xloc (nat_lit 3)) (xattr (xloc (nat_lit 0)) (nat_lit 0))))
  (sseq (sif (xand (xcmp ceq (xbin odiv (xloc (nat_lit 3)) (xattr (xloc (nat_lit 0)) (nat_lit 0))) (xbin osub (xattr (xloc (nat_lit 0)) (nat_lit 1)) (xlit (.int (.ofNat (nat_lit 2)))))) (xand (xcmp cne (xloc (nat_lit 8)) (xloc (nat_lit 2))) (xcmp cne (xloc (nat_lit 8)) (xloc (nat_lit 4)))))
   (sif (xor (xnot (xbin oand (xbin oshr (xloc (nat_lit 5)) (xloc (nat_lit 8))) (xlit (.int (.ofNat (nat_lit 1)))))) (xbin oand (xbin oshr (xloc (nat_lit 6)) (xloc (nat_lit 8))) (xlit (.int (.ofNat (nat_lit 1))))))
    (sret (xlit (.int (.ofNat (nat_lit 4)))))
    spass)
   spass)
  (sret (xlit (.int (.ofNat (nat_lit 1))))))))
  spass)
 (sseq (sif (xcmp ceq (xbin oand (xloc (nat_lit 5)) (xbin oor (xloc (nat_lit 6)) (xloc (nat_lit 7)))) (xloc (nat_lit 5)))
  (sret (xlit (.int (.ofNat (nat_lit 2)))))
  spass)
 (sseq (sif (xand (xbin oand (xbin oshr (xloc (nat_lit 5)) (xloc (nat_lit 3))) (xlit (.int (.ofNat (nat_lit 1))))) (xnot (xbin oand (xbin oshr (xloc (nat_lit 6)) (xloc (nat_lit 3))) (xlit (.int (.ofNat (nat_lit 1)))))))
  (sret (xlit (.int (.ofNat (nat_lit 2)))))
  spass)
 (sret (xlit (.int (.ofNat (nat_lit 1))))))))))))
def f_first_result : Fn := fn (nat_lit 5) [.unb, .unb, .unb, .unb] b_first_result

-- strong_results: locals ['geo', 'base', 'steps', 'strong', 'pawn', 'weak', 'found', 'start', 'goal', 'rank', 'ahead']
def b_strong_results : XS :=
 (sseq (sset (nat_lit 6) (xlit (.int (.ofNat (nat_lit 0)))))
 (sseq (sset (nat_lit 7) (xcall f_kpk_index (econs (xloc (nat_lit 0)) (econs (xlit (.int (.ofNat (nat_lit 1)))) (econs (xlit (.int (.ofNat (nat_lit 0)))) (econs (xloc (nat_lit 4)) (econs (xloc (nat_lit 5)) enil)))))))
 (sseq (sfor (tvar (nat_lit 8)) (xsub (xloc (nat_lit 2)) (xloc (nat_lit 3)))
  (saug (nat_lit 6) oor (xsub (xloc (nat_lit 1)) (xbin oadd (xloc (nat_lit 7)) (xloc (nat_lit 8))))))
 (sseq (sset (nat_lit 9) (xbin odiv (xloc (nat_lit 4)) (xattr (xloc (nat_lit 0)) (nat_lit 0))))
 (sseq (sif (xcmp clt (xloc (nat_lit 9)) (xbin osub (xattr (xloc (nat_lit 0)) (nat_lit 1)) (xlit (.int (.ofNat (nat_lit 2))))))
  (sseq (sset (nat_lit 10) (xbin oadd (xloc (nat_lit 4)) (xattr (xloc (nat_lit 0)) (nat_lit 0))))
  (sseq (saug (nat_lit 6) oor (xsub (xloc (nat_lit 1)) (xcall f_kpk_index (econs (xloc (nat_lit 0)) (econs (xlit (.int (.ofNat (nat_lit 1)))) (econs (xloc (nat_lit 3)) (econs (xloc (nat_lit 10)) (econs (xloc (nat_lit 5)) enil))))))))
  (sif (xand (xcmp ceq (xloc (nat_lit 9)) (xlit (.int (.ofNat (nat_lit 1))))) (xand (xattr (xloc (nat_lit 0)) (nat_lit 4)) (xand (xcmp cne (xloc (nat_lit 10)) (xloc (nat_lit 3))) (xcmp cne (xloc (nat_lit 10)) (xloc (nat_lit 5))))))
   (saug (nat_lit 6) oor (xsub (xloc (nat_lit 1)) (xcall f_kpk_index (econs (xloc (nat_lit 0)) (econs (xlit (.int (.ofNat (nat_lit 1)))) (econs (xloc (nat_lit 3)) (econs (xbin oadd (xloc (nat_lit 10)) (xattr (xloc (nat_lit 0)) (nat_lit 0))) (econs (xloc (nat_lit 5)) enil))))))))
   spass)))
  spass)
 (sret (xloc (nat_lit 6))))))))
def f_strong_results : Fn := fn (nat_lit 6) [.unb, .unb, .unb, .unb, .unb] b_strong_results

-- weak_results: locals ['geo', 'base', 'steps', 'strong', 'pawn', 'weak', 'found', 'start', 'goal']
def b_weak_results : XS :=
 (sseq (sset (nat_lit 6) (xlit (.int (.ofNat (nat_lit 0)))))
 (sseq (sset (nat_lit 7) (xcall f_kpk_index (econs (xloc (nat_lit 0)) (econs (xlit (.int (.ofNat (nat_lit 0)))) (econs (xloc (nat_lit 3)) (econs (xloc (nat_lit 4)) (econs (xlit (.int (.ofNat (nat_lit 0)))) enil)))))))
 (sseq (sfor (tvar (nat_lit 8)) (xsub (xloc (nat_lit 2)) (xloc (nat_lit 5)))
  (saug (nat_lit 6) oor (xsub (xloc (nat_lit 1)) (xbin oadd (xloc (nat_lit 7)) (xbin omul (xloc (nat_lit 8)) (xattr (xloc (nat_lit 0)) (nat_lit 2)))))))
 (sret (xloc (nat_lit 6))))))
def f_weak_results : Fn := fn (nat_lit 6) [.unb, .unb, .unb] b_weak_results

-- classify: locals ['geo', 'base', 'steps', 'side', 'strong', 'pawn', 'weak', 'found', 'good', 'bad']
def b_classify : XS :=
 (sseq (sif (xcmp ceq (xloc (nat_lit 3)) (xlit (.int (.ofNat (nat_lit 0)))))
  (sseq (sset (nat_lit 7) (xcall f_strong_results (econs (xloc (nat_lit 0)) (econs (xloc (nat_lit 1)) (econs (xloc (nat_lit 2)) (econs (xloc (nat_lit 4)) (econs (xloc (nat_lit 5)) (econs (xloc (nat_lit 6)) enil))))))))
  (sseq (sset (nat_lit 8) (xlit (.int (.ofNat (nat_lit 4)))))
  (sset (nat_lit 9) (xlit (.int (.ofNat (nat_lit 2)))))))
  (sseq (sset (nat_lit 7) (xcall f_weak_results (econs (xloc (nat_lit 0)) (econs (xloc (nat_lit 1)) (econs (xloc (nat_lit 2)) (econs (xloc (nat_lit 4)) (econs (xloc (nat_lit 5)) (econs (xloc (nat_lit 6)) enil))))))))
  (sseq (sset (nat_lit 8) (xlit (.int (.ofNat (nat_lit 2)))))
  (sset (nat_lit 9) (xlit (.int (.ofNat (nat_lit 4))))))))
 (sseq (sif (xbin oand (xloc (nat_lit 7)) (xloc (nat_lit 8)))
  (sret (xloc (nat_lit 8)))
  spass)
 (sseq (sif (xbin oand (xloc (nat_lit 7)) (xlit (.int (.ofNat (nat_lit 1)))))
  (sret (xlit (.int (.ofNat (nat_lit 1)))))
  spass)
 (sret (xloc (nat_lit 9))))))
def f_classify : Fn := fn (nat_lit 7) [.unb, .unb, .unb] b_classify

-- settle_first: locals ['geo', 'base', 'unknown', 'pawn', 'weak', 'far', 'strong', 'side', 'result']
def b_settle_first : XS :=
 (sseq (sset (nat_lit 2) (xlist enil))
 (sseq (sfor (tvar (nat_lit 3)) (xrange3 (xbin osub (xbin osub (xattr (xloc (nat_lit 0)) (nat_lit 2)) (xattr (xloc (nat_lit 0)) (nat_lit 0))) (xlit (.int (.ofNat (nat_lit 1))))) (xbin osub (xattr (xloc (nat_lit 0)) (nat_lit 0)) (xlit (.int (.ofNat (nat_lit 1))))) (xneg (xlit (.int (.ofNat (nat_lit 1))))))
  (sif (xcmp clt (xbin omod (xloc (nat_lit 3)) (xattr (xloc (nat_lit 0)) (nat_lit 0))) (xcall f_pawn_files (econs (xloc (nat_lit 0)) enil)))
   (sfor (tvar (nat_lit 4)) (xrange1 (xattr (xloc (nat_lit 0)) (nat_lit 2)))
    (sseq (sset (nat_lit 5) (xcall f_squares_of (econs (xbin oxor (xattr (xloc (nat_lit 0)) (nat_lit 3)) (xbin oor (xsub (xattr (xloc (nat_lit 0)) (nat_lit 9)) (xloc (nat_lit 4))) (xbin oshl (xlit (.int (.ofNat (nat_lit 1)))) (xloc (nat_lit 4))))) enil)))
    (sfor (tvar (nat_lit 6)) (xloc (nat_lit 5))
     (sfor (tvar (nat_lit 7)) (xtup (econs (xlit (.int (.ofNat (nat_lit 0)))) (econs (xlit (.int (.ofNat (nat_lit 1)))) enil)))
      (sseq (sset (nat_lit 8) (xcall f_first_result (econs (xloc (nat_lit 0)) (econs (xloc (nat_lit 7)) (econs (xloc (nat_lit 6)) (econs (xloc (nat_lit 3)) (econs (xloc (nat_lit 4)) enil)))))))
      (sseq (ssub (xloc (nat_lit 1)) (xcall f_kpk_index (econs (xloc (nat_lit 0)) (econs (xloc (nat_lit 7)) (econs (xloc (nat_lit 6)) (econs (xloc (nat_lit 3)) (econs (xloc (nat_lit 4)) enil)))))) (xloc (nat_lit 8)))
      (sif (xcmp ceq (xloc (nat_lit 8)) (xlit (.int (.ofNat (nat_lit 1)))))
       (sexpr (xappend (xloc (nat_lit 2)) (xtup (econs (xloc (nat_lit 7)) (econs (xloc (nat_lit 6)) (econs (xloc (nat_lit 3)) (econs (xloc (nat_lit 4)) enil)))))))
       spass)))))))
   spass))
 (sret (xloc (nat_lit 2)))))
def f_settle_first : Fn := fn (nat_lit 2) [.unb, .unb, .unb, .unb, .unb, .unb, .unb] b_settle_first

-- settle_round: locals ['geo', 'base', 'steps', 'unknown', 'left', 'side', 'strong', 'pawn', 'weak', 'result']
def b_settle_round : XS :=
 (sseq (sset (nat_lit 4) (xlist enil))
 (sseq (sfor (ttup [(nat_lit 5), (nat_lit 6), (nat_lit 7), (nat_lit 8)]) (xloc (nat_lit 3))
  (sseq (sset (nat_lit 9) (xcall f_classify (econs (xloc (nat_lit 0)) (econs (xloc (nat_lit 1)) (econs (xloc (nat_lit 2)) (econs (xloc (nat_lit 5)) (econs (xloc (nat_lit 6)) (econs (xloc (nat_lit 7)) (econs (xloc (nat_lit 8)) enil)))))))))
  (sif (xcmp ceq (xloc (nat_lit 9)) (xlit (.int (.ofNat (nat_lit 1)))))
   (sexpr (xappend (xloc (nat_lit 4)) (xtup (econs (xloc (nat_lit 5)) (econs (xloc (nat_lit 6)) (econs (xloc (nat_lit 7)) (econs (xloc (nat_lit 8)) enil)))))))
   (ssub (xloc (nat_lit 1)) (xcall f_kpk_index (econs (xloc (nat_lit 0)) (econs (xloc (nat_lit 5)) (econs (xloc (nat_lit 6)) (econs (xloc (nat_lit 7)) (econs (xloc (nat_lit 8)) enil)))))) (xloc (nat_lit 9))))))
 (sret (xloc (nat_lit 4)))))
def f_settle_round : Fn := fn (nat_lit 4) [.unb, .unb, .unb, .unb, .unb, .unb] b_settle_round

-- build_kpk: locals ['geo', 'base', 'steps', 'square', 'unknown', 'left', 'side', 'strong', 'pawn', 'weak']
def b_build_kpk : XS :=
 (sseq (sset (nat_lit 1) (xrep (xlit (.int (.ofNat (nat_lit 0)))) (xcall f_kpk_size (econs (xloc (nat_lit 0)) enil))))
 (sseq (sset (nat_lit 2) (xlist enil))
 (sseq (sfor (tvar (nat_lit 3)) (xrange1 (xattr (xloc (nat_lit 0)) (nat_lit 2)))
  (sexpr (xappend (xloc (nat_lit 2)) (xcall f_squares_of (econs (xsub (xattr (xloc (nat_lit 0)) (nat_lit 9)) (xloc (nat_lit 3))) enil)))))
 (sseq (sset (nat_lit 4) (xcall f_settle_first (econs (xloc (nat_lit 0)) (econs (xloc (nat_lit 1)) enil))))
 (sseq (swhile (xlit (.bool true))
  (sseq (sset (nat_lit 5) (xcall f_settle_round (econs (xloc (nat_lit 0)) (econs (xloc (nat_lit 1)) (econs (xloc (nat_lit 2)) (econs (xloc (nat_lit 4)) enil))))))
  (sseq (sif (xcmp ceq (xlen (xloc (nat_lit 5))) (xlen (xloc (nat_lit 4))))
   sbreak
   spass)
  (sset (nat_lit 4) (xloc (nat_lit 5))))) (nat_lit 64))
 (sseq (sfor (ttup [(nat_lit 6), (nat_lit 7), (nat_lit 8), (nat_lit 9)]) (xloc (nat_lit 4))
  (ssub (xloc (nat_lit 1)) (xcall f_kpk_index (econs (xloc (nat_lit 0)) (econs (xloc (nat_lit 6)) (econs (xloc (nat_lit 7)) (econs (xloc (nat_lit 8)) (econs (xloc (nat_lit 9)) enil)))))) (xlit (.int (.ofNat (nat_lit 2))))))
 (sret (xloc (nat_lit 1)))))))))
def f_build_kpk : Fn := fn (nat_lit 1) [.unb, .unb, .unb, .unb, .unb, .unb, .unb, .unb, .unb] b_build_kpk

-- mirrored: locals ['geo', 'square', 'file']
def b_mirrored : XS :=
 (sseq (sset (nat_lit 2) (xbin omod (xloc (nat_lit 1)) (xattr (xloc (nat_lit 0)) (nat_lit 0))))
 (sret (xbin osub (xbin osub (xbin oadd (xbin osub (xloc (nat_lit 1)) (xloc (nat_lit 2))) (xattr (xloc (nat_lit 0)) (nat_lit 0))) (xlit (.int (.ofNat (nat_lit 1))))) (xloc (nat_lit 2)))))
def f_mirrored : Fn := fn (nat_lit 2) [.unb] b_mirrored

-- flipped: locals ['geo', 'square', 'rank']
def b_flipped : XS :=
 (sseq (sset (nat_lit 2) (xbin odiv (xloc (nat_lit 1)) (xattr (xloc (nat_lit 0)) (nat_lit 0))))
 (sret (xbin oadd (xbin omul (xbin osub (xbin osub (xattr (xloc (nat_lit 0)) (nat_lit 1)) (xlit (.int (.ofNat (nat_lit 1))))) (xloc (nat_lit 2))) (xattr (xloc (nat_lit 0)) (nat_lit 0))) (xbin omod (xloc (nat_lit 1)) (xattr (xloc (nat_lit 0)) (nat_lit 0))))))
def f_flipped : Fn := fn (nat_lit 2) [.unb] b_flipped

-- probe_kpk: locals ['geo', 'base', 'side', 'strong', 'pawn', 'weak', 'square']
def b_probe_kpk : XS :=
 (sseq (sfor (tvar (nat_lit 6)) (xtup (econs (xloc (nat_lit 3)) (econs (xloc (nat_lit 5)) enil)))
  (sif (xnot (xcmp2 cle clt (xlit (.int (.ofNat (nat_lit 0)))) (xloc (nat_lit 6)) (xattr (xloc (nat_lit 0)) (nat_lit 2))))
   sraise
   spass))
 (sseq (sif (xnot (xcmp2 cle clt (xattr (xloc (nat_lit 0)) (nat_lit 0)) (xloc (nat_lit 4)) (xbin osub (xattr (xloc (nat_lit 0)) (nat_lit 2)) (xattr (xloc (nat_lit 0)) (nat_lit 0)))))
  sraise
  spass)
 (sseq (sif (xcmp cge (xbin omod (xloc (nat_lit 4)) (xattr (xloc (nat_lit 0)) (nat_lit 0))) (xcall f_pawn_files (econs (xloc (nat_lit 0)) enil)))
  (sseq (sset (nat_lit 3) (xcall f_mirrored (econs (xloc (nat_lit 0)) (econs (xloc (nat_lit 3)) enil))))
  (sseq (sset (nat_lit 4) (xcall f_mirrored (econs (xloc (nat_lit 0)) (econs (xloc (nat_lit 4)) enil))))
  (sset (nat_lit 5) (xcall f_mirrored (econs (xloc (nat_lit 0)) (econs (xloc (nat_lit 5)) enil))))))
  spass)
 (sret (xsub (xloc (nat_lit 1)) (xcall f_kpk_index (econs (xloc (nat_lit 0)) (econs (xloc (nat_lit 2)) (econs (xloc (nat_lit 3)) (econs (xloc (nat_lit 4)) (econs (xloc (nat_lit 5)) enil)))))))))))
def f_probe_kpk : Fn := fn (nat_lit 6) [.unb] b_probe_kpk

-- probe_for: locals ['geo', 'base', 'owner', 'side', 'strong', 'pawn', 'weak']
def b_probe_for : XS :=
 (sseq (sif (xcmp ceq (xloc (nat_lit 2)) (xlit (.int (.ofNat (nat_lit 0)))))
  (sret (xcall f_probe_kpk (econs (xloc (nat_lit 0)) (econs (xloc (nat_lit 1)) (econs (xloc (nat_lit 3)) (econs (xloc (nat_lit 4)) (econs (xloc (nat_lit 5)) (econs (xloc (nat_lit 6)) enil))))))))
  spass)
 (sret (xcall f_probe_kpk (econs (xloc (nat_lit 0)) (econs (xloc (nat_lit 1)) (econs (xbin osub (xlit (.int (.ofNat (nat_lit 1)))) (xloc (nat_lit 3))) (econs (xcall f_flipped (econs (xloc (nat_lit 0)) (econs (xloc (nat_lit 4)) enil))) (econs (xcall f_flipped (econs (xloc (nat_lit 0)) (econs (xloc (nat_lit 5)) enil))) (econs (xcall f_flipped (econs (xloc (nat_lit 0)) (econs (xloc (nat_lit 6)) enil))) enil)))))))))
def f_probe_for : Fn := fn (nat_lit 7) [] b_probe_for

-- Geometry_init: locals ['self', 'files', 'ranks', 'has_double', 'has_castling']
def b_Geometry_init : XS :=
 (sseq (sattr (xloc (nat_lit 0)) (nat_lit 0) (xloc (nat_lit 1)))
 (sseq (sattr (xloc (nat_lit 0)) (nat_lit 1) (xloc (nat_lit 2)))
 (sseq (sattr (xloc (nat_lit 0)) (nat_lit 2) (xbin omul (xloc (nat_lit 1)) (xloc (nat_lit 2))))
 (sseq (sattr (xloc (nat_lit 0)) (nat_lit 3) (xbin osub (xbin oshl (xlit (.int (.ofNat (nat_lit 1)))) (xbin omul (xloc (nat_lit 1)) (xloc (nat_lit 2)))) (xlit (.int (.ofNat (nat_lit 1))))))
 (sseq (sattr (xloc (nat_lit 0)) (nat_lit 4) (xand (xloc (nat_lit 3)) (xcmp cge (xloc (nat_lit 2)) (xlit (.int (.ofNat (nat_lit 5)))))))
 (sseq (sattr (xloc (nat_lit 0)) (nat_lit 5) (xloc (nat_lit 4)))
 (sseq (sattr (xloc (nat_lit 0)) (nat_lit 6) (xlist enil))
 (sseq (sattr (xloc (nat_lit 0)) (nat_lit 7) (xlist enil))
 (sseq (sattr (xloc (nat_lit 0)) (nat_lit 8) (xlist enil))
 (sseq (sattr (xloc (nat_lit 0)) (nat_lit 9) (xlist enil))
 (sseq (sattr (xloc (nat_lit 0)) (nat_lit 10) (xlist enil))
 (sseq (sattr (xloc (nat_lit 0)) (nat_lit 11) (xlist (econs (xlist enil) (econs (xlist enil) enil))))
 (sseq (sattr (xloc (nat_lit 0)) (nat_lit 12) (xlist enil))
 (sattr (xloc (nat_lit 0)) (nat_lit 13) (xlist enil)))))))))))))))
def f_Geometry_init : Fn := fn (nat_lit 5) [] b_Geometry_init

def f_Geometry : Fn := newInst f_Geometry_init [.unb, .unb, .unb, .unb, .unb, .unb, .unb, .unb, .unb, .unb, .unb, .unb, .unb, .unb]

-- is_growing: locals ['d']
def b_is_growing : XS :=
 (sret (xor (xcmp cgt (xsub (xlit (.tup [.int (.ofNat (nat_lit 1)), .int (.ofNat (nat_lit 0)), .int (.negSucc (nat_lit 0)), .int (.ofNat (nat_lit 0)), .int (.ofNat (nat_lit 1)), .int (.negSucc (nat_lit 0)), .int (.negSucc (nat_lit 0)), .int (.ofNat (nat_lit 1))])) (xloc (nat_lit 0))) (xlit (.int (.ofNat (nat_lit 0))))) (xcmp ceq (xloc (nat_lit 0)) (xlit (.int (.ofNat (nat_lit 1)))))))
def f_is_growing : Fn := fn (nat_lit 1) [] b_is_growing

-- add_masks: locals ['geo', 'row', 'column', 'r', 'f']
def b_add_masks : XS :=
 (sseq (sset (nat_lit 1) (xbin osub (xbin oshl (xlit (.int (.ofNat (nat_lit 1)))) (xattr (xloc (nat_lit 0)) (nat_lit 0))) (xlit (.int (.ofNat (nat_lit 1))))))
 (sseq (sset (nat_lit 2) (xlit (.int (.ofNat (nat_lit 0)))))
 (sseq (sfor (tvar (nat_lit 3)) (xrange1 (xattr (xloc (nat_lit 0)) (nat_lit 1)))
  (sseq (sexpr (xappend (xattr (xloc (nat_lit 0)) (nat_lit 7)) (xbin oshl (xloc (nat_lit 1)) (xbin omul (xloc (nat_lit 3)) (xattr (xloc (nat_lit 0)) (nat_lit 0))))))
  (saug (nat_lit 2) oor (xbin oshl (xlit (.int (.ofNat (nat_lit 1)))) (xbin omul (xloc (nat_lit 3)) (xattr (xloc (nat_lit 0)) (nat_lit 0)))))))
 (sfor (tvar (nat_lit 4)) (xrange1 (xattr (xloc (nat_lit 0)) (nat_lit 0)))
  (sexpr (xappend (xattr (xloc (nat_lit 0)) (nat_lit 6)) (xbin oshl (xloc (nat_lit 2)) (xloc (nat_lit 4)))))))))
def f_add_masks : Fn := fn (nat_lit 1) [.unb, .unb, .unb, .unb] b_add_masks

-- inner_squares: locals ['geo', 'd', 'edge']
def b_inner_squares : XS :=
 (sseq (sset (nat_lit 2) (xlit (.int (.ofNat (nat_lit 0)))))
 (sseq (sif (xcmp cgt (xsub (xlit (.tup [.int (.ofNat (nat_lit 0)), .int (.ofNat (nat_lit 1)), .int (.ofNat (nat_lit 0)), .int (.negSucc (nat_lit 0)), .int (.ofNat (nat_lit 1)), .int (.ofNat (nat_lit 1)), .int (.negSucc (nat_lit 0)), .int (.negSucc (nat_lit 0))])) (xloc (nat_lit 1))) (xlit (.int (.ofNat (nat_lit 0)))))
  (saug (nat_lit 2) oor (xsub (xattr (xloc (nat_lit 0)) (nat_lit 6)) (xbin osub (xattr (xloc (nat_lit 0)) (nat_lit 0)) (xlit (.int (.ofNat (nat_lit 1)))))))
  spass)
 (sseq (sif (xcmp clt (xsub (xlit (.tup [.int (.ofNat (nat_lit 0)), .int (.ofNat (nat_lit 1)), .int (.ofNat (nat_lit 0)), .int (.negSucc (nat_lit 0)), .int (.ofNat (nat_lit 1)), .int (.ofNat (nat_lit 1)), .int (.negSucc (nat_lit 0)), .int (.negSucc (nat_lit 0))])) (xloc (nat_lit 1))) (xlit (.int (.ofNat (nat_lit 0)))))
  (saug (nat_lit 2) oor (xsub (xattr (xloc (nat_lit 0)) (nat_lit 6)) (xlit (.int (.ofNat (nat_lit 0))))))
  spass)
 (sseq (sif (xcmp cgt (xsub (xlit (.tup [.int (.ofNat (nat_lit 1)), .int (.ofNat (nat_lit 0)), .int (.negSucc (nat_lit 0)), .int (.ofNat (nat_lit 0)), .int (.ofNat (nat_lit 1)), .int (.negSucc (nat_lit 0)), .int (.negSucc (nat_lit 0)), .int (.ofNat (nat_lit 1))])) (xloc (nat_lit 1))) (xlit (.int (.ofNat (nat_lit 0)))))
  (saug (nat_lit 2) oor (xsub (xattr (xloc (nat_lit 0)) (nat_lit 7)) (xbin osub (xattr (xloc (nat_lit 0)) (nat_lit 1)) (xlit (.int (.ofNat (nat_lit 1)))))))
  spass)
 (sseq (sif (xcmp clt (xsub (xlit (.tup [.int (.ofNat (nat_lit 1)), .int (.ofNat (nat_lit 0)), .int (.negSucc (nat_lit 0)), .int (.ofNat (nat_lit 0)), .int (.ofNat (nat_lit 1)), .int (.negSucc (nat_lit 0)), .int (.negSucc (nat_lit 0)), .int (.ofNat (nat_lit 1))])) (xloc (nat_lit 1))) (xlit (.int (.ofNat (nat_lit 0)))))
  (saug (nat_lit 2) oor (xsub (xattr (xloc (nat_lit 0)) (nat_lit 7)) (xlit (.int (.ofNat (nat_lit 0))))))
  spass)
 (sret (xbin oand (xattr (xloc (nat_lit 0)) (nat_lit 3)) (xinv (xloc (nat_lit 2))))))))))
def f_inner_squares : Fn := fn (nat_lit 2) [.unb] b_inner_squares

-- add_rays: locals ['geo', 'd', 'inner', 'delta', 'ray', 'order', 'square', 'goal']
def b_add_rays : XS :=
 (sseq (sattr (xloc (nat_lit 0)) (nat_lit 9) (xrep (xlit (.int (.ofNat (nat_lit 0)))) (xattr (xloc (nat_lit 0)) (nat_lit 2))))
 (sfor (tvar (nat_lit 1)) (xrange1 (xlit (.int (.ofNat (nat_lit 8)))))
  (sseq (sset (nat_lit 2) (xcall f_inner_squares (econs (xloc (nat_lit 0)) (econs (xloc (nat_lit 1)) enil))))
  (sseq (sset (nat_lit 3) (xbin oadd (xbin omul (xsub (xlit (.tup [.int (.ofNat (nat_lit 1)), .int (.ofNat (nat_lit 0)), .int (.negSucc (nat_lit 0)), .int (.ofNat (nat_lit 0)), .int (.ofNat (nat_lit 1)), .int (.negSucc (nat_lit 0)), .int (.negSucc (nat_lit 0)), .int (.ofNat (nat_lit 1))])) (xloc (nat_lit 1))) (xattr (xloc (nat_lit 0)) (nat_lit 0))) (xsub (xlit (.tup [.int (.ofNat (nat_lit 0)), .int (.ofNat (nat_lit 1)), .int (.ofNat (nat_lit 0)), .int (.negSucc (nat_lit 0)), .int (.ofNat (nat_lit 1)), .int (.ofNat (nat_lit 1)), .int (.negSucc (nat_lit 0)), .int (.negSucc (nat_lit 0))])) (xloc (nat_lit 1)))))
  (sseq (sset (nat_lit 4) (xrep (xlit (.int (.ofNat (nat_lit 0)))) (xattr (xloc (nat_lit 0)) (nat_lit 2))))
  (sseq (sset (nat_lit 5) (xrange1 (xattr (xloc (nat_lit 0)) (nat_lit 2))))
  (sseq (sif (xcall f_is_growing (econs (xloc (nat_lit 1)) enil))
   (sset (nat_lit 5) (xrange3 (xbin osub (xattr (xloc (nat_lit 0)) (nat_lit 2)) (xlit (.int (.ofNat (nat_lit 1))))) (xneg (xlit (.int (.ofNat (nat_lit 1))))) (xneg (xlit (.int (.ofNat (nat_lit 1)))))))
   spass)
  (sseq (sfor (tvar (nat_lit 6)) (xloc (nat_lit 5))
   (sif (xbin oand (xbin oshr (xloc (nat_lit 2)) (xloc (nat_lit 6))) (xlit (.int (.ofNat (nat_lit 1)))))
    (sseq (sset (nat_lit 7) (xbin oadd (xloc (nat_lit 6)) (xloc (nat_lit 3))))
    (sseq (ssub (xloc (nat_lit 4)) (xloc (nat_lit 6)) (xbin oor (xsub (xloc (nat_lit 4)) (xloc (nat_lit 7))) (xbin oshl (xlit (.int (.ofNat (nat_lit 1)))) (xloc (nat_lit 7)))))
    (saugsub (xattr (xloc (nat_lit 0)) (nat_lit 9)) (xloc (nat_lit 6)) oor (xbin oshl (xlit (.int (.ofNat (nat_lit 1)))) (xloc (nat_lit 7))))))
    spass))
  (sexpr (xappend (xattr (xloc (nat_lit 0)) (nat_lit 8)) (xloc (nat_lit 4))))))))))))
def f_add_rays : Fn := fn (nat_lit 1) [.unb, .unb, .unb, .unb, .unb, .unb, .unb] b_add_rays

-- add_pawns: locals ['geo', 'square']
def b_add_pawns : XS :=
 (sfor (tvar (nat_lit 1)) (xrange1 (xattr (xloc (nat_lit 0)) (nat_lit 2)))
  (sseq (sexpr (xappend (xsub (xattr (xloc (nat_lit 0)) (nat_lit 11)) (xlit (.int (.ofNat (nat_lit 0))))) (xbin oand (xsub (xattr (xloc (nat_lit 0)) (nat_lit 9)) (xloc (nat_lit 1))) (xbin oor (xsub (xsub (xattr (xloc (nat_lit 0)) (nat_lit 8)) (xlit (.int (.ofNat (nat_lit 4))))) (xloc (nat_lit 1))) (xsub (xsub (xattr (xloc (nat_lit 0)) (nat_lit 8)) (xlit (.int (.ofNat (nat_lit 7))))) (xloc (nat_lit 1)))))))
  (sexpr (xappend (xsub (xattr (xloc (nat_lit 0)) (nat_lit 11)) (xlit (.int (.ofNat (nat_lit 1))))) (xbin oand (xsub (xattr (xloc (nat_lit 0)) (nat_lit 9)) (xloc (nat_lit 1))) (xbin oor (xsub (xsub (xattr (xloc (nat_lit 0)) (nat_lit 8)) (xlit (.int (.ofNat (nat_lit 5))))) (xloc (nat_lit 1))) (xsub (xsub (xattr (xloc (nat_lit 0)) (nat_lit 8)) (xlit (.int (.ofNat (nat_lit 6))))) (xloc (nat_lit 1)))))))))
def f_add_pawns : Fn := fn (nat_lit 1) [.unb] b_add_pawns

-- add_knights: locals ['geo', 'files', 'not_first', 'not_last', 'not_first_two', 'not_last_two', 'square', 'b', 'near', 'far', 'found']
def b_add_knights : XS :=
 (sseq (sset (nat_lit 1) (xattr (xloc (nat_lit 0)) (nat_lit 0)))
 (sseq (sset (nat_lit 2) (xbin oand (xattr (xloc (nat_lit 0)) (nat_lit 3)) (xinv (xsub (xattr (xloc (nat_lit 0)) (nat_lit 6)) (xlit (.int (.ofNat (nat_lit 0))))))))
 (sseq (sset (nat_lit 3) (xbin oand (xattr (xloc (nat_lit 0)) (nat_lit 3)) (xinv (xsub (xattr (xloc (nat_lit 0)) (nat_lit 6)) (xbin osub (xloc (nat_lit 1)) (xlit (.int (.ofNat (nat_lit 1)))))))))
 (sseq (sset (nat_lit 4) (xbin oand (xloc (nat_lit 2)) (xinv (xsub (xattr (xloc (nat_lit 0)) (nat_lit 6)) (xlit (.int (.ofNat (nat_lit 1))))))))
 (sseq (sset (nat_lit 5) (xbin oand (xloc (nat_lit 3)) (xinv (xsub (xattr (xloc (nat_lit 0)) (nat_lit 6)) (xbin osub (xloc (nat_lit 1)) (xlit (.int (.ofNat (nat_lit 2)))))))))
 (sfor (tvar (nat_lit 6)) (xrange1 (xattr (xloc (nat_lit 0)) (nat_lit 2)))
  (sseq (sset (nat_lit 7) (xbin oshl (xlit (.int (.ofNat (nat_lit 1)))) (xloc (nat_lit 6))))
  (sseq (sset (nat_lit 8) (xbin oor (xbin oand (xbin oshl (xloc (nat_lit 7)) (xlit (.int (.ofNat (nat_lit 1))))) (xloc (nat_lit 2))) (xbin oand (xbin oshr (xloc (nat_lit 7)) (xlit (.int (.ofNat (nat_lit 1))))) (xloc (nat_lit 3)))))
  (sseq (sset (nat_lit 9) (xbin oor (xbin oand (xbin oshl (xloc (nat_lit 7)) (xlit (.int (.ofNat (nat_lit 2))))) (xloc (nat_lit 4))) (xbin oand (xbin oshr (xloc (nat_lit 7)) (xlit (.int (.ofNat (nat_lit 2))))) (xloc (nat_lit 5)))))
  (sseq (sset (nat_lit 10) (xbin oor (xbin oor (xbin oor (xbin oshl (xloc (nat_lit 8)) (xbin omul (xlit (.int (.ofNat (nat_lit 2)))) (xloc (nat_lit 1)))) (xbin oshr (xloc (nat_lit 8)) (xbin omul (xlit (.int (.ofNat (nat_lit 2)))) (xloc (nat_lit 1))))) (xbin oshl (xloc (nat_lit 9)) (xloc (nat_lit 1)))) (xbin oshr (xloc (nat_lit 9)) (xloc (nat_lit 1)))))
  (sexpr (xappend (xattr (xloc (nat_lit 0)) (nat_lit 10)) (xbin oand (xloc (nat_lit 10)) (xattr (xloc (nat_lit 0)) (nat_lit 3)))))))))))))))
def f_add_knights : Fn := fn (nat_lit 1) [.unb, .unb, .unb, .unb, .unb, .unb, .unb, .unb, .unb, .unb] b_add_knights

-- add_castles: locals ['geo', 'start', 'index', 'base', 'corner', 'way', 'goal']
def b_add_castles : XS :=
 (sseq (sattr (xloc (nat_lit 0)) (nat_lit 13) (xrep (xlit (.int (.ofNat (nat_lit 0)))) (xattr (xloc (nat_lit 0)) (nat_lit 2))))
 (sseq (sset (nat_lit 1) (xbin odiv (xattr (xloc (nat_lit 0)) (nat_lit 0)) (xlit (.int (.ofNat (nat_lit 2))))))
 (sfor (tvar (nat_lit 2)) (xrange1 (xlit (.int (.ofNat (nat_lit 4)))))
  (sseq (sset (nat_lit 3) (xbin omul (xbin omul (xbin oshr (xloc (nat_lit 2)) (xlit (.int (.ofNat (nat_lit 1))))) (xbin osub (xattr (xloc (nat_lit 0)) (nat_lit 1)) (xlit (.int (.ofNat (nat_lit 1)))))) (xattr (xloc (nat_lit 0)) (nat_lit 0))))
  (sseq (sset (nat_lit 4) (xbin osub (xattr (xloc (nat_lit 0)) (nat_lit 0)) (xlit (.int (.ofNat (nat_lit 1))))))
  (sseq (sset (nat_lit 5) (xlit (.int (.ofNat (nat_lit 1)))))
  (sseq (sif (xbin oand (xloc (nat_lit 2)) (xlit (.int (.ofNat (nat_lit 1)))))
   (sseq (sset (nat_lit 4) (xlit (.int (.ofNat (nat_lit 0)))))
   (sset (nat_lit 5) (xneg (xlit (.int (.ofNat (nat_lit 1)))))))
   spass)
  (sseq (sset (nat_lit 6) (xbin oadd (xloc (nat_lit 1)) (xbin omul (xlit (.int (.ofNat (nat_lit 2)))) (xloc (nat_lit 5)))))
  (sif (xand (xattr (xloc (nat_lit 0)) (nat_lit 5)) (xcmp cgt (xbin omul (xbin osub (xloc (nat_lit 4)) (xloc (nat_lit 6))) (xloc (nat_lit 5))) (xlit (.int (.ofNat (nat_lit 0))))))
   (sseq (sexpr (xappend (xattr (xloc (nat_lit 0)) (nat_lit 12)) (xtup (econs (xbin oadd (xloc (nat_lit 3)) (xloc (nat_lit 1))) (econs (xbin oadd (xloc (nat_lit 3)) (xloc (nat_lit 6))) (econs (xbin oadd (xloc (nat_lit 3)) (xloc (nat_lit 4))) (econs (xbin osub (xbin oadd (xloc (nat_lit 3)) (xloc (nat_lit 6))) (xloc (nat_lit 5))) enil)))))))
   (sseq (saugsub (xattr (xloc (nat_lit 0)) (nat_lit 13)) (xbin oadd (xloc (nat_lit 3)) (xloc (nat_lit 1))) oor (xbin oshl (xlit (.int (.ofNat (nat_lit 1)))) (xloc (nat_lit 2))))
   (saugsub (xattr (xloc (nat_lit 0)) (nat_lit 13)) (xbin oadd (xloc (nat_lit 3)) (xloc (nat_lit 4))) oor (xbin oshl (xlit (.int (.ofNat (nat_lit 1)))) (xloc (nat_lit 2))))))
   (sexpr (xappend (xattr (xloc (nat_lit 0)) (nat_lit 12)) (xlit .none))))))))))))
def f_add_castles : Fn := fn (nat_lit 1) [.unb, .unb, .unb, .unb, .unb, .unb] b_add_castles

-- make_geometry: locals ['files', 'ranks', 'has_double', 'has_castling', 'geo']
def b_make_geometry : XS :=
 (sseq (sif (xor (xcmp clt (xloc (nat_lit 0)) (xlit (.int (.ofNat (nat_lit 2))))) (xor (xcmp cgt (xloc (nat_lit 0)) (xlit (.int (.ofNat (nat_lit 8))))) (xor (xcmp clt (xloc (nat_lit 1)) (xlit (.int (.ofNat (nat_lit 3))))) (xcmp cgt (xloc (nat_lit 1)) (xlit (.int (.ofNat (nat_lit 8))))))))
  sraise
  spass)
 (sseq (sset (nat_lit 4) (xcall f_Geometry (econs (xloc (nat_lit 0)) (econs (xloc (nat_lit 1)) (econs (xloc (nat_lit 2)) (econs (xloc (nat_lit 3)) enil))))))
 (sseq (sexpr (xcall f_add_masks (econs (xloc (nat_lit 4)) enil)))
 (sseq (sexpr (xcall f_add_rays (econs (xloc (nat_lit 4)) enil)))
 (sseq (sexpr (xcall f_add_pawns (econs (xloc (nat_lit 4)) enil)))
 (sseq (sexpr (xcall f_add_knights (econs (xloc (nat_lit 4)) enil)))
 (sseq (sexpr (xcall f_add_castles (econs (xloc (nat_lit 4)) enil)))
 (sret (xloc (nat_lit 4))))))))))
def f_make_geometry : Fn := fn (nat_lit 4) [.unb] b_make_geometry

-- _law_near: locals ['files', 'size', 'out', 'a', 'row', 'b', 'aside', 'along']
def b__law_near : XS :=
 (sseq (sset (nat_lit 2) (xlist enil))
 (sseq (sfor (tvar (nat_lit 3)) (xrange1 (xloc (nat_lit 1)))
  (sseq (sset (nat_lit 4) (xlist enil))
  (sseq (sfor (tvar (nat_lit 5)) (xrange1 (xloc (nat_lit 1)))
   (sseq (sset (nat_lit 6) (xabs (xbin osub (xbin omod (xloc (nat_lit 3)) (xloc (nat_lit 0))) (xbin omod (xloc (nat_lit 5)) (xloc (nat_lit 0))))))
   (sseq (sset (nat_lit 7) (xabs (xbin osub (xbin odiv (xloc (nat_lit 3)) (xloc (nat_lit 0))) (xbin odiv (xloc (nat_lit 5)) (xloc (nat_lit 0))))))
   (sif (xand (xcmp cne (xloc (nat_lit 3)) (xloc (nat_lit 5))) (xand (xcmp cle (xloc (nat_lit 6)) (xlit (.int (.ofNat (nat_lit 1))))) (xcmp cle (xloc (nat_lit 7)) (xlit (.int (.ofNat (nat_lit 1)))))))
    (sexpr (xappend (xloc (nat_lit 4)) (xloc (nat_lit 5))))
    spass))))
  (sexpr (xappend (xloc (nat_lit 2)) (xloc (nat_lit 4)))))))
 (sret (xloc (nat_lit 2)))))
def f__law_near : Fn := fn (nat_lit 2) [.unb, .unb, .unb, .unb, .unb, .unb] b__law_near

-- _law_after: locals ['files', 'ranks', 'double', 'near', 'side', 'strong', 'pawn', 'weak', 'file', 'rank', 'held', 'out', 'ahead', 'goal']
def b__law_after : XS :=
 (sseq (sif (xor (xcmp ceq (xloc (nat_lit 5)) (xloc (nat_lit 7))) (xor (xcmp ceq (xloc (nat_lit 5)) (xloc (nat_lit 6))) (xor (xcmp ceq (xloc (nat_lit 7)) (xloc (nat_lit 6))) (xin (xloc (nat_lit 7)) (xsub (xloc (nat_lit 3)) (xloc (nat_lit 5)))))))
  (sret (xtup (econs (xlit (.int (.ofNat (nat_lit 0)))) (econs (xlist enil) enil))))
  spass)
 (sseq (sset (nat_lit 8) (xbin omod (xloc (nat_lit 6)) (xloc (nat_lit 0))))
 (sseq (sset (nat_lit 9) (xbin odiv (xloc (nat_lit 6)) (xloc (nat_lit 0))))
 (sseq (sset (nat_lit 10) (xlist enil))
 (sseq (sif (xcmp cgt (xloc (nat_lit 8)) (xlit (.int (.ofNat (nat_lit 0)))))
  (sexpr (xappend (xloc (nat_lit 10)) (xbin osub (xbin oadd (xloc (nat_lit 6)) (xloc (nat_lit 0))) (xlit (.int (.ofNat (nat_lit 1)))))))
  spass)
 (sseq (sif (xcmp clt (xloc (nat_lit 8)) (xbin osub (xloc (nat_lit 0)) (xlit (.int (.ofNat (nat_lit 1))))))
  (sexpr (xappend (xloc (nat_lit 10)) (xbin oadd (xbin oadd (xloc (nat_lit 6)) (xloc (nat_lit 0))) (xlit (.int (.ofNat (nat_lit 1)))))))
  spass)
 (sseq (sset (nat_lit 11) (xlist enil))
 (sseq (sif (xcmp ceq (xloc (nat_lit 4)) (xlit (.int (.ofNat (nat_lit 0)))))
  (sseq (sif (xin (xloc (nat_lit 7)) (xloc (nat_lit 10)))
   (sret (xtup (econs (xlit (.int (.ofNat (nat_lit 0)))) (econs (xlist enil) enil))))
   spass)
  (sseq (sset (nat_lit 12) (xbin oadd (xloc (nat_lit 6)) (xloc (nat_lit 0))))
  (sseq (sif (xand (xcmp cne (xloc (nat_lit 12)) (xloc (nat_lit 5))) (xcmp cne (xloc (nat_lit 12)) (xloc (nat_lit 7))))
   (sif (xcmp ceq (xloc (nat_lit 9)) (xbin osub (xloc (nat_lit 1)) (xlit (.int (.ofNat (nat_lit 2))))))
    (sif (xor (xnotin (xloc (nat_lit 12)) (xsub (xloc (nat_lit 3)) (xloc (nat_lit 7)))) (xin (xloc (nat_lit 12)) (xsub (xloc (nat_lit 3)) (xloc (nat_lit 5)))))
     (sret (xtup (econs (xlit (.int (.ofNat (nat_lit 1)))) (econs (xlist enil) enil))))
     spass)
    (sseq (sexpr (xappend (xloc (nat_lit 11)) (xtup (econs (xlit (.int (.ofNat (nat_lit 1)))) (econs (xloc (nat_lit 5)) (econs (xloc (nat_lit 12)) (econs (xloc (nat_lit 7)) enil)))))))
    (sif (xand (xloc (nat_lit 2)) (xand (xcmp ceq (xloc (nat_lit 9)) (xlit (.int (.ofNat (nat_lit 1))))) (xand (xcmp cne (xbin oadd (xloc (nat_lit 12)) (xloc (nat_lit 0))) (xloc (nat_lit 5))) (xcmp cne (xbin oadd (xloc (nat_lit 12)) (xloc (nat_lit 0))) (xloc (nat_lit 7))))))
     (sexpr (xappend (xloc (nat_lit 11)) (xtup (econs (xlit (.int (.ofNat (nat_lit 1)))) (econs (xloc (nat_lit 5)) (econs (xbin oadd (xloc (nat_lit 12)) (xloc (nat_lit 0))) (econs (xloc (nat_lit 7)) enil)))))))
     spass)))
   spass)
  (sseq (sfor (tvar (nat_lit 13)) (xsub (xloc (nat_lit 3)) (xloc (nat_lit 5)))
   (sif (xand (xcmp cne (xloc (nat_lit 13)) (xloc (nat_lit 6))) (xnotin (xloc (nat_lit 13)) (xsub (xloc (nat_lit 3)) (xloc (nat_lit 7)))))
    (sexpr (xappend (xloc (nat_lit 11)) (xtup (econs (xlit (.int (.ofNat (nat_lit 1)))) (econs (xloc (nat_lit 13)) (econs (xloc (nat_lit 6)) (econs (xloc (nat_lit 7)) enil)))))))
    spass))
  (sret (xtup (econs (xlit (.int (.ofNat (nat_lit 3)))) (econs (xloc (nat_lit 11)) enil))))))))
  spass)
 (sseq (sfor (tvar (nat_lit 13)) (xsub (xloc (nat_lit 3)) (xloc (nat_lit 7)))
  (sif (xand (xnotin (xloc (nat_lit 13)) (xsub (xloc (nat_lit 3)) (xloc (nat_lit 5)))) (xnotin (xloc (nat_lit 13)) (xloc (nat_lit 10))))
   (sseq (sif (xcmp ceq (xloc (nat_lit 13)) (xloc (nat_lit 6)))
    (sret (xtup (econs (xlit (.int (.ofNat (nat_lit 2)))) (econs (xlist enil) enil))))
    spass)
   (sexpr (xappend (xloc (nat_lit 11)) (xtup (econs (xlit (.int (.ofNat (nat_lit 0)))) (econs (xloc (nat_lit 5)) (econs (xloc (nat_lit 6)) (econs (xloc (nat_lit 13)) enil))))))))
   spass))
 (sseq (sif (xisNil (xloc (nat_lit 11)))
  (sret (xtup (econs (xlit (.int (.ofNat (nat_lit 2)))) (econs (xlist enil) enil))))
  spass)
 (sret (xtup (econs (xlit (.int (.ofNat (nat_lit 3)))) (econs (xloc (nat_lit 11)) enil))))))))))))))
def f__law_after : Fn := fn (nat_lit 8) [.unb, .unb, .unb, .unb, .unb, .unb] b__law_after

-- _law_is_won: locals ['side', 'known', 'count']
def b__law_is_won : XS :=
 (sseq (sif (xcmp ceq (xloc (nat_lit 0)) (xlit (.int (.ofNat (nat_lit 0)))))
  (sret (xcmp cgt (xloc (nat_lit 1)) (xlit (.int (.ofNat (nat_lit 0))))))
  spass)
 (sret (xcmp ceq (xloc (nat_lit 1)) (xloc (nat_lit 2)))))
def f__law_is_won : Fn := fn (nat_lit 3) [] b__law_is_won

-- _law_solve: locals ['files', 'ranks', 'near', 'column', 'size', 'won', 'told', 'nodes', 'pawn', 'strong', 'weak', 'side', 'place', 'sort', 'out', 'is_new', 'known', 'one']
def b__law_solve : XS :=
 (sseq (sset (nat_lit 4) (xbin omul (xloc (nat_lit 0)) (xloc (nat_lit 1))))
 (sseq (sset (nat_lit 5) xdict)
 (sseq (sset (nat_lit 6) xdict)
 (sseq (sset (nat_lit 7) (xlist enil))
 (sseq (sfor (tvar (nat_lit 8)) (xrange3 (xbin oadd (xloc (nat_lit 0)) (xloc (nat_lit 3))) (xbin osub (xloc (nat_lit 4)) (xloc (nat_lit 0))) (xloc (nat_lit 0)))
  (sfor (tvar (nat_lit 9)) (xrange1 (xloc (nat_lit 4)))
   (sfor (tvar (nat_lit 10)) (xrange1 (xloc (nat_lit 4)))
    (sfor (tvar (nat_lit 11)) (xtup (econs (xlit (.int (.ofNat (nat_lit 0)))) (econs (xlit (.int (.ofNat (nat_lit 1)))) enil)))
     (sseq (sset (nat_lit 12) (xtup (econs (xloc (nat_lit 11)) (econs (xloc (nat_lit 9)) (econs (xloc (nat_lit 8)) (econs (xloc (nat_lit 10)) enil))))))
     (sseq (sunpack [(nat_lit 13), (nat_lit 14)] (xcall f__law_after (econs (xloc (nat_lit 0)) (econs (xloc (nat_lit 1)) (econs (xlit (.bool false)) (econs (xloc (nat_lit 2)) (econs (xloc (nat_lit 11)) (econs (xloc (nat_lit 9)) (econs (xloc (nat_lit 8)) (econs (xloc (nat_lit 10)) enil))))))))))
     (sseq (ssub (xloc (nat_lit 6)) (xloc (nat_lit 12)) (xbin omul (xmin (xloc (nat_lit 13)) (xlit (.int (.ofNat (nat_lit 1))))) (xlit (.int (.ofNat (nat_lit 2))))))
     (sseq (sif (xcmp ceq (xloc (nat_lit 13)) (xlit (.int (.ofNat (nat_lit 1)))))
      (ssub (xloc (nat_lit 5)) (xloc (nat_lit 12)) (xlit (.bool true)))
      spass)
     (sif (xcmp ceq (xloc (nat_lit 13)) (xlit (.int (.ofNat (nat_lit 3)))))
      (sexpr (xappend (xloc (nat_lit 7)) (xtup (econs (xloc (nat_lit 12)) (econs (xloc (nat_lit 14)) enil)))))
      spass)))))))))
 (sseq (sset (nat_lit 15) (xlit (.bool true)))
 (sseq (swhile (xloc (nat_lit 15))
  (sseq (sset (nat_lit 15) (xlit (.bool false)))
  (sfor (ttup [(nat_lit 12), (nat_lit 14)]) (xloc (nat_lit 7))
   (sif (xnotin (xloc (nat_lit 12)) (xloc (nat_lit 5)))
    (sseq (sset (nat_lit 16) (xlit (.int (.ofNat (nat_lit 0)))))
    (sseq (sfor (tvar (nat_lit 17)) (xloc (nat_lit 14))
     (sif (xin (xloc (nat_lit 17)) (xloc (nat_lit 5)))
      (saug (nat_lit 16) oadd (xlit (.int (.ofNat (nat_lit 1)))))
      spass))
    (sif (xcall f__law_is_won (econs (xsub (xloc (nat_lit 12)) (xlit (.int (.ofNat (nat_lit 0))))) (econs (xloc (nat_lit 16)) (econs (xlen (xloc (nat_lit 14))) enil))))
     (sseq (ssub (xloc (nat_lit 5)) (xloc (nat_lit 12)) (xlit (.bool true)))
     (sset (nat_lit 15) (xlit (.bool true))))
     spass)))
    spass))) (nat_lit 64))
 (sseq (sfor (tvar (nat_lit 12)) (xloc (nat_lit 5))
  (ssub (xloc (nat_lit 6)) (xloc (nat_lit 12)) (xlit (.int (.ofNat (nat_lit 4))))))
 (sret (xloc (nat_lit 6)))))))))))
def f__law_solve : Fn := fn (nat_lit 4) [.unb, .unb, .unb, .unb, .unb, .unb, .unb, .unb, .unb, .unb, .unb, .unb, .unb, .unb] b__law_solve

-- _law_mirror: locals ['files', 'square']
def b__law_mirror : XS :=
 (sret (xbin osub (xbin osub (xbin oadd (xbin osub (xloc (nat_lit 1)) (xbin omod (xloc (nat_lit 1)) (xloc (nat_lit 0)))) (xloc (nat_lit 0))) (xlit (.int (.ofNat (nat_lit 1))))) (xbin omod (xloc (nat_lit 1)) (xloc (nat_lit 0)))))
def f__law_mirror : Fn := fn (nat_lit 2) [] b__law_mirror

-- _law_turn: locals ['files', 'ranks', 'square']
def b__law_turn : XS :=
 (sret (xbin oadd (xbin omul (xbin osub (xbin osub (xloc (nat_lit 1)) (xlit (.int (.ofNat (nat_lit 1))))) (xbin odiv (xloc (nat_lit 2)) (xloc (nat_lit 0)))) (xloc (nat_lit 0))) (xbin omod (xloc (nat_lit 2)) (xloc (nat_lit 0)))))
def f__law_turn : Fn := fn (nat_lit 3) [] b__law_turn

def sraiseX (kx : Bool) (e : XE) : XS := fun l h _ _ _ _ => e l h fun v _ => asInt v fun _ => kx
def b_probe_kpkX (kx : Bool) : XS :=
 (sseq (sfor (tvar (nat_lit 6)) (xtup (econs (xloc (nat_lit 3)) (econs (xloc (nat_lit 5)) enil)))
  (sif (xnot (xcmp2 cle clt (xlit (.int (.ofNat (nat_lit 0)))) (xloc (nat_lit 6)) (xattr (xloc (nat_lit 0)) (nat_lit 2))))
   (sraiseX kx (xloc (nat_lit 6)))
   spass))
 (sseq (sif (xnot (xcmp2 cle clt (xattr (xloc (nat_lit 0)) (nat_lit 0)) (xloc (nat_lit 4)) (xbin osub (xattr (xloc (nat_lit 0)) (nat_lit 2)) (xattr (xloc (nat_lit 0)) (nat_lit 0)))))
  (sraiseX kx (xloc (nat_lit 4)))
  spass)
 (sseq (sif (xcmp cge (xbin omod (xloc (nat_lit 4)) (xattr (xloc (nat_lit 0)) (nat_lit 0))) (xcall f_pawn_files (econs (xloc (nat_lit 0)) enil)))
  (sseq (sset (nat_lit 3) (xcall f_mirrored (econs (xloc (nat_lit 0)) (econs (xloc (nat_lit 3)) enil))))
  (sseq (sset (nat_lit 4) (xcall f_mirrored (econs (xloc (nat_lit 0)) (econs (xloc (nat_lit 4)) enil))))
  (sset (nat_lit 5) (xcall f_mirrored (econs (xloc (nat_lit 0)) (econs (xloc (nat_lit 5)) enil))))))
  spass)
 (sret (xsub (xloc (nat_lit 1)) (xcall f_kpk_index (econs (xloc (nat_lit 0)) (econs (xloc (nat_lit 2)) (econs (xloc (nat_lit 3)) (econs (xloc (nat_lit 4)) (econs (xloc (nat_lit 5)) enil)))))))))))
def f_probe_kpkX (kx : Bool) : Fn := fn (nat_lit 6) [.unb] (b_probe_kpkX kx)

def b_probe_forX (kx : Bool) : XS :=
 (sseq (sif (xcmp ceq (xloc (nat_lit 2)) (xlit (.int (.ofNat (nat_lit 0)))))
  (sret (xcall (f_probe_kpkX kx) (econs (xloc (nat_lit 0)) (econs (xloc (nat_lit 1)) (econs (xloc (nat_lit 3)) (econs (xloc (nat_lit 4)) (econs (xloc (nat_lit 5)) (econs (xloc (nat_lit 6)) enil))))))))
  spass)
 (sret (xcall (f_probe_kpkX kx) (econs (xloc (nat_lit 0)) (econs (xloc (nat_lit 1)) (econs (xbin osub (xlit (.int (.ofNat (nat_lit 1)))) (xloc (nat_lit 3))) (econs (xcall f_flipped (econs (xloc (nat_lit 0)) (econs (xloc (nat_lit 4)) enil))) (econs (xcall f_flipped (econs (xloc (nat_lit 0)) (econs (xloc (nat_lit 5)) enil))) (econs (xcall f_flipped (econs (xloc (nat_lit 0)) (econs (xloc (nat_lit 6)) enil))) enil)))))))))
def f_probe_forX (kx : Bool) : Fn := fn (nat_lit 7) [] (b_probe_forX kx)

def tryArgs : XL := (econs (xloc (nat_lit 7)) (econs (xloc (nat_lit 8)) (econs (xloc (nat_lit 19)) (econs (xloc (nat_lit 13)) (econs (xloc (nat_lit 14)) (econs (xloc (nat_lit 15)) (econs (xloc (nat_lit 16)) enil)))))))
def frzH (h : H) : H := @H.rec (fun _ => H) (fun t n _ => ⟨t, n, n⟩) h
def stry : XS := fun l h kn kr kb kc => truthy (getV l (nat_lit 20)) fun b => bcase b (bcase (xcall (f_probe_forX true) tryArgs l (frzH h) fun _ _ => false) (kn l h) false) (sset (nat_lit 21) (xcall f_probe_for tryArgs) l h kn kr kb kc)
-- 0 strong = s[at] % (size + 2)
def b_loop_0 : XS :=
 (sset (nat_lit 14) (xbin omod (xsub (xloc (nat_lit 1)) (xloc (nat_lit 18))) (xbin oadd (xloc (nat_lit 4)) (xlit (.int (.ofNat (nat_lit 2)))))))
-- 1 pawn = (s[at + 1] + 1) % (ranks + 1) * files + column
def b_loop_1 : XS :=
 (sset (nat_lit 15) (xbin oadd (xbin omul (xbin omod (xbin oadd (xsub (xloc (nat_lit 1)) (xbin oadd (xloc (nat_lit 18)) (xlit (.int (.ofNat (nat_lit 1)))))) (xlit (.int (.ofNat (nat_lit 1))))) (xbin oadd (xloc (nat_lit 3)) (xlit (.int (.ofNat (nat_lit 1)))))) (xloc (nat_lit 2))) (xloc (nat_lit 10))))
-- 2 if s[at + 1] // (ranks + 1) % 2 == 1:;    pawn = _law_mirror(files, pawn)
def b_loop_2 : XS :=
 (sif (xcmp ceq (xbin omod (xbin odiv (xsub (xloc (nat_lit 1)) (xbin oadd (xloc (nat_lit 18)) (xlit (.int (.ofNat (nat_lit 1)))))) (xbin oadd (xloc (nat_lit 3)) (xlit (.int (.ofNat (nat_lit 1)))))) (xlit (.int (.ofNat (nat_lit 2))))) (xlit (.int (.ofNat (nat_lit 1)))))
  (sset (nat_lit 15) (xcall f__law_mirror (econs (xloc (nat_lit 2)) (econs (xloc (nat_lit 15)) enil))))
  spass)
-- 3 weak = (s[at + 2] + size - 1) % (size + 2)
def b_loop_3 : XS :=
 (sset (nat_lit 16) (xbin omod (xbin osub (xbin oadd (xsub (xloc (nat_lit 1)) (xbin oadd (xloc (nat_lit 18)) (xlit (.int (.ofNat (nat_lit 2)))))) (xloc (nat_lit 4))) (xlit (.int (.ofNat (nat_lit 1))))) (xbin oadd (xloc (nat_lit 4)) (xlit (.int (.ofNat (nat_lit 2)))))))
-- 4 side = s[at + 3] % 2
def b_loop_4 : XS :=
 (sset (nat_lit 13) (xbin omod (xsub (xloc (nat_lit 1)) (xbin oadd (xloc (nat_lit 18)) (xlit (.int (.ofNat (nat_lit 3)))))) (xlit (.int (.ofNat (nat_lit 2))))))
-- 5 owner = s[at + 3] // 2 % 2
def b_loop_5 : XS :=
 (sset (nat_lit 19) (xbin omod (xbin odiv (xsub (xloc (nat_lit 1)) (xbin oadd (xloc (nat_lit 18)) (xlit (.int (.ofNat (nat_lit 3)))))) (xlit (.int (.ofNat (nat_lit 2))))) (xlit (.int (.ofNat (nat_lit 2))))))
-- 6 if strong == size + 1:;    strong = -1
def b_loop_6 : XS :=
 (sif (xcmp ceq (xloc (nat_lit 14)) (xbin oadd (xloc (nat_lit 4)) (xlit (.int (.ofNat (nat_lit 1))))))
  (sset (nat_lit 14) (xneg (xlit (.int (.ofNat (nat_lit 1))))))
  spass)
-- 7 if weak == size + 1:;    weak = -1
def b_loop_7 : XS :=
 (sif (xcmp ceq (xloc (nat_lit 16)) (xbin oadd (xloc (nat_lit 4)) (xlit (.int (.ofNat (nat_lit 1))))))
  (sset (nat_lit 16) (xneg (xlit (.int (.ofNat (nat_lit 1))))))
  spass)
-- 8 is_bad = not (0 <= strong < size and 0 <= weak < size and (files <= pawn < size 
def b_loop_8 : XS :=
 (sset (nat_lit 20) (xnot (xand (xcmp2 cle clt (xlit (.int (.ofNat (nat_lit 0)))) (xloc (nat_lit 14)) (xloc (nat_lit 4))) (xand (xcmp2 cle clt (xlit (.int (.ofNat (nat_lit 0)))) (xloc (nat_lit 16)) (xloc (nat_lit 4))) (xcmp2 cle clt (xloc (nat_lit 2)) (xloc (nat_lit 15)) (xbin osub (xloc (nat_lit 4)) (xloc (nat_lit 2))))))))
-- 9 told = -1
def b_loop_9 : XS :=
 (sset (nat_lit 21) (xneg (xlit (.int (.ofNat (nat_lit 1))))))
-- 10 try:;    told = probe_for(geo, base, owner, side, strong, pawn, weak);except Bad
def b_loop_10 : XS :=
 stry
-- 11 if is_bad:;    if told != -1:;        return False;    continue
def b_loop_11 : XS :=
 (sif (xloc (nat_lit 20))
  (sseq (sif (xcmp cne (xloc (nat_lit 21)) (xneg (xlit (.int (.ofNat (nat_lit 1))))))
   (sret (xlit (.bool false)))
   spass)
  scont)
  spass)
-- 12 if owner == 1:;    strong = _law_turn(files, ranks, strong);    pawn = _law_turn
def b_loop_12 : XS :=
 (sif (xcmp ceq (xloc (nat_lit 19)) (xlit (.int (.ofNat (nat_lit 1)))))
  (sseq (sset (nat_lit 14) (xcall f__law_turn (econs (xloc (nat_lit 2)) (econs (xloc (nat_lit 3)) (econs (xloc (nat_lit 14)) enil)))))
  (sseq (sset (nat_lit 15) (xcall f__law_turn (econs (xloc (nat_lit 2)) (econs (xloc (nat_lit 3)) (econs (xloc (nat_lit 15)) enil)))))
  (sseq (sset (nat_lit 16) (xcall f__law_turn (econs (xloc (nat_lit 2)) (econs (xloc (nat_lit 3)) (econs (xloc (nat_lit 16)) enil)))))
  (sset (nat_lit 13) (xbin osub (xlit (.int (.ofNat (nat_lit 1)))) (xloc (nat_lit 13)))))))
  spass)
-- 13 if not is_local:;    if pawn % files != column:;        strong = _law_mirror(fil
def b_loop_13 : XS :=
 (sif (xnot (xloc (nat_lit 5)))
  (sseq (sif (xcmp cne (xbin omod (xloc (nat_lit 15)) (xloc (nat_lit 2))) (xloc (nat_lit 10)))
   (sseq (sset (nat_lit 14) (xcall f__law_mirror (econs (xloc (nat_lit 2)) (econs (xloc (nat_lit 14)) enil))))
   (sseq (sset (nat_lit 15) (xcall f__law_mirror (econs (xloc (nat_lit 2)) (econs (xloc (nat_lit 15)) enil))))
   (sset (nat_lit 16) (xcall f__law_mirror (econs (xloc (nat_lit 2)) (econs (xloc (nat_lit 16)) enil))))))
   spass)
  (sif (xcmp cne (xloc (nat_lit 21)) (xsub (xloc (nat_lit 11)) (xtup (econs (xloc (nat_lit 13)) (econs (xloc (nat_lit 14)) (econs (xloc (nat_lit 15)) (econs (xloc (nat_lit 16)) enil)))))))
   (sret (xlit (.bool false)))
   spass))
  (sseq (sunpack [(nat_lit 22), (nat_lit 23)] (xcall f__law_after (econs (xloc (nat_lit 2)) (econs (xloc (nat_lit 3)) (econs (xloc (nat_lit 6)) (econs (xloc (nat_lit 9)) (econs (xloc (nat_lit 13)) (econs (xloc (nat_lit 14)) (econs (xloc (nat_lit 15)) (econs (xloc (nat_lit 16)) enil))))))))))
  (sseq (sset (nat_lit 17) (xlit (.int (.ofNat (nat_lit 0)))))
  (sseq (sfor (tvar (nat_lit 24)) (xloc (nat_lit 23))
   (sif (xcmp ceq (xcall f_probe_kpk (econs (xloc (nat_lit 7)) (econs (xloc (nat_lit 8)) (econs (xsub (xloc (nat_lit 24)) (xlit (.int (.ofNat (nat_lit 0))))) (econs (xsub (xloc (nat_lit 24)) (xlit (.int (.ofNat (nat_lit 1))))) (econs (xsub (xloc (nat_lit 24)) (xlit (.int (.ofNat (nat_lit 2))))) (econs (xsub (xloc (nat_lit 24)) (xlit (.int (.ofNat (nat_lit 3))))) enil))))))) (xlit (.int (.ofNat (nat_lit 4)))))
    (saug (nat_lit 17) oadd (xlit (.int (.ofNat (nat_lit 1)))))
    spass))
  (sseq (sset (nat_lit 25) (xlit (.int (.ofNat (nat_lit 2)))))
  (sseq (sif (xcmp ceq (xloc (nat_lit 22)) (xlit (.int (.ofNat (nat_lit 0)))))
   (sset (nat_lit 25) (xlit (.int (.ofNat (nat_lit 0)))))
   spass)
  (sseq (sif (xor (xcmp ceq (xloc (nat_lit 22)) (xlit (.int (.ofNat (nat_lit 1))))) (xand (xcmp ceq (xloc (nat_lit 22)) (xlit (.int (.ofNat (nat_lit 3))))) (xcall f__law_is_won (econs (xloc (nat_lit 13)) (econs (xloc (nat_lit 17)) (econs (xlen (xloc (nat_lit 23))) enil))))))
   (sset (nat_lit 25) (xlit (.int (.ofNat (nat_lit 4)))))
   spass)
  (sif (xcmp cne (xloc (nat_lit 21)) (xloc (nat_lit 25)))
   (sret (xlit (.bool false)))
   spass))))))))
def b_P2 : XS := (sseq b_loop_6 (sseq b_loop_7 (sseq b_loop_8 (sseq b_loop_9 (sseq b_loop_10 (sseq b_loop_11 (sseq b_loop_12 b_loop_13)))))))
-- law: locals ['script', 's', 'files', 'ranks', 'size', 'is_local', 'double', 'geo', 'base', 'near', 'column', 'right', 'place', 'side', 'strong', 'pawn', 'weak', 'known', 'at', 'owner', 'is_bad', 'told', 'sort', 'out', 'one', 'wanted']
-- 0 s = script[:15] + [0] * (7 - len(script))
def b_law_0 : XS :=
 (sset (nat_lit 1) (xcat (xtake (xloc (nat_lit 0)) 15) (xrep (xlit (.int (.ofNat (nat_lit 0)))) (xbin osub (xlit (.int (.ofNat (nat_lit 7)))) (xlen (xloc (nat_lit 0)))))))
-- 1 files, ranks = [(2, 3), (2, 4), (3, 3), (2, 5)][s[0] % 4]
def b_law_1 : XS :=
 (sunpack [(nat_lit 2), (nat_lit 3)] (xsub (xlist (econs (xtup (econs (xlit (.int (.ofNat (nat_lit 2)))) (econs (xlit (.int (.ofNat (nat_lit 3)))) enil))) (econs (xtup (econs (xlit (.int (.ofNat (nat_lit 2)))) (econs (xlit (.int (.ofNat (nat_lit 4)))) enil))) (econs (xtup (econs (xlit (.int (.ofNat (nat_lit 3)))) (econs (xlit (.int (.ofNat (nat_lit 3)))) enil))) (econs (xtup (econs (xlit (.int (.ofNat (nat_lit 2)))) (econs (xlit (.int (.ofNat (nat_lit 5)))) enil))) enil))))) (xbin omod (xsub (xloc (nat_lit 1)) (xlit (.int (.ofNat (nat_lit 0))))) (xlit (.int (.ofNat (nat_lit 4)))))))
-- 2 size = files * ranks
def b_law_2 : XS :=
 (sset (nat_lit 4) (xbin omul (xloc (nat_lit 2)) (xloc (nat_lit 3))))
-- 3 is_local = ranks == 5
def b_law_3 : XS :=
 (sset (nat_lit 5) (xcmp ceq (xloc (nat_lit 3)) (xlit (.int (.ofNat (nat_lit 5))))))
-- 4 double = is_local and s[1] % 2 == 0
def b_law_4 : XS :=
 (sset (nat_lit 6) (xand (xloc (nat_lit 5)) (xcmp ceq (xbin omod (xsub (xloc (nat_lit 1)) (xlit (.int (.ofNat (nat_lit 1))))) (xlit (.int (.ofNat (nat_lit 2))))) (xlit (.int (.ofNat (nat_lit 0)))))))
-- 5 geo = make_geometry(files, ranks, double, False)
def b_law_5 : XS :=
 (sset (nat_lit 7) (xcall f_make_geometry (econs (xloc (nat_lit 2)) (econs (xloc (nat_lit 3)) (econs (xloc (nat_lit 6)) (econs (xlit (.bool false)) enil))))))
-- 6 base = build_kpk(geo)
def b_law_6 : XS :=
 (sset (nat_lit 8) (xcall f_build_kpk (econs (xloc (nat_lit 7)) enil)))
-- 7 near = _law_near(files, size)
def b_law_7 : XS :=
 (sset (nat_lit 9) (xcall f__law_near (econs (xloc (nat_lit 2)) (econs (xloc (nat_lit 4)) enil))))
-- 8 column = s[2] % files
def b_law_8 : XS :=
 (sset (nat_lit 10) (xbin omod (xsub (xloc (nat_lit 1)) (xlit (.int (.ofNat (nat_lit 2))))) (xloc (nat_lit 2))))
-- 9 if len(base) != (files + 1) // 2 * (ranks - 2) * 2 * size * size:;    return Fal
def b_law_9 : XS :=
 (sif (xcmp cne (xlen (xloc (nat_lit 8))) (xbin omul (xbin omul (xbin omul (xbin omul (xbin odiv (xbin oadd (xloc (nat_lit 2)) (xlit (.int (.ofNat (nat_lit 1))))) (xlit (.int (.ofNat (nat_lit 2))))) (xbin osub (xloc (nat_lit 3)) (xlit (.int (.ofNat (nat_lit 2)))))) (xlit (.int (.ofNat (nat_lit 2))))) (xloc (nat_lit 4))) (xloc (nat_lit 4))))
  (sret (xlit (.bool false)))
  spass)
-- 10 right = {}
def b_law_10 : XS :=
 (sset (nat_lit 11) xdict)
-- 11 if not is_local:;    right = _law_solve(files, ranks, near, column);    for plac
def b_law_11 : XS :=
 (sif (xnot (xloc (nat_lit 5)))
  (sseq (sset (nat_lit 11) (xcall f__law_solve (econs (xloc (nat_lit 2)) (econs (xloc (nat_lit 3)) (econs (xloc (nat_lit 9)) (econs (xloc (nat_lit 10)) enil))))))
  (sfor (tvar (nat_lit 12)) (xloc (nat_lit 11))
   (sseq (sunpack [(nat_lit 13), (nat_lit 14), (nat_lit 15), (nat_lit 16)] (xloc (nat_lit 12)))
   (sseq (sif (xand (xcmp cne (xloc (nat_lit 14)) (xloc (nat_lit 16))) (xnotin (xloc (nat_lit 16)) (xsub (xloc (nat_lit 9)) (xloc (nat_lit 14)))))
    (sseq (sset (nat_lit 17) (xsub (xlist (econs (xlit (.int (.ofNat (nat_lit 0)))) (econs (xlit (.int (.ofNat (nat_lit 4)))) (econs (xlit (.int (.ofNat (nat_lit 2)))) (econs (xlit (.int (.ofNat (nat_lit 1)))) enil))))) (xsub (xcall f__law_after (econs (xloc (nat_lit 2)) (econs (xloc (nat_lit 3)) (econs (xlit (.bool false)) (econs (xloc (nat_lit 9)) (econs (xloc (nat_lit 13)) (econs (xloc (nat_lit 14)) (econs (xloc (nat_lit 15)) (econs (xloc (nat_lit 16)) enil))))))))) (xlit (.int (.ofNat (nat_lit 0)))))))
    (sif (xcmp cne (xcall f_first_result (econs (xloc (nat_lit 7)) (econs (xloc (nat_lit 13)) (econs (xloc (nat_lit 14)) (econs (xloc (nat_lit 15)) (econs (xloc (nat_lit 16)) enil)))))) (xloc (nat_lit 17)))
     (sret (xlit (.bool false)))
     spass))
    spass)
   (sif (xcmp cne (xcall f_probe_kpk (econs (xloc (nat_lit 7)) (econs (xloc (nat_lit 8)) (econs (xsub (xloc (nat_lit 12)) (xlit (.int (.ofNat (nat_lit 0))))) (econs (xsub (xloc (nat_lit 12)) (xlit (.int (.ofNat (nat_lit 1))))) (econs (xsub (xloc (nat_lit 12)) (xlit (.int (.ofNat (nat_lit 2))))) (econs (xsub (xloc (nat_lit 12)) (xlit (.int (.ofNat (nat_lit 3))))) enil))))))) (xsub (xloc (nat_lit 11)) (xloc (nat_lit 12))))
    (sret (xlit (.bool false)))
    spass)))))
  spass)
-- 12 for at in range(3, len(s) - 3, 4):;    strong = s[at] % (size + 2);    pawn = (s
-- 13 return True
def b_law_13 : XS :=
 (sret (xlit (.bool true)))
end
end Kp
end
-- part KpK
section
set_option autoImplicit false
namespace Kp
open PySem PySem.W
noncomputable section
abbrev pg : Program := PySem.Challenge.pw_nt0434_01
def stAt : List Stmt → Nat → Option Stmt
  | [], _ => none
  | s :: _, 0 => some s
  | _ :: r, n + 1 => stAt r n
def inAt (o : Option Stmt) (n : Nat) : Option Stmt := match o with
  | some (.ClassDef _ _ _ body _ _ _ _ _ _ _) => stAt body n
  | _ => none
def sv (x : String) (t : Tok) : Value := .str (Str.ofString x) t
abbrev vi (i : Int) (t : Tok) : Value := .int i t
abbrev vr (a : Addr) : Value := .ref a
def en (P : Params) (x : String) (t : Tok) (v : Value) : DictEntry := { hash := PyData.keyHash P (Str.ofString x), key := .str (Str.ofString x) t, val := v }
def fnO (o : Option Stmt) (q m : String) (t : Tok) (c : Addr) : Obj := match o with
  | some (.FunctionDef name args body _ _ _ scope _ _ _) => { cls := .type "function", data := .func { name := name, qualname := Str.ofString q, params := args, body := .stmts body, scope := scope, globals := 3, closure := [], defaults := .none, kwdefaults := .none, pyModule := .str (Str.ofString m) t, code := .ref c } }
  | _ => { cls := .none, data := .fields #[] }
def kP (P : Params) : Frag := [
(2, { cls := Value.none, data := Data.dict #[en P "type.__subclasses__.Exception.0" 225 (vi 38 0), en P "type.__subclasses__.Exception.n" 226 (vi 1 0)] 2 }),
  (3, { cls := Value.type "dict", data := Data.dict #[en P "__name__" 165 (sv "law_nt0434_01" 616), en P "__doc__" 166 (Value.none), en P "__package__" 167 (Value.none), en P "__loader__" 168 (Value.builtin "__main__.__loader__#opaque"), en P "__spec__" 169 (Value.none), en P "__annotations__" 170 (vr 6), en P "__builtins__" 171 (vr 4), en P "__file__" 173 (sv "/claim/cut.py" 172), en P "__cached__" 174 (Value.none), en P "squares_of" 197 (vr 21), en P "ChessError" 228 (vr 38), en P "BadSquare" 253 (vr 58), en P "WHITE" 255 (vi 0 254), en P "BLACK" 257 (vi 1 256), en P "INVALID" 261 (vi 0 260), en P "UNKNOWN" 263 (vi 1 262), en P "DRAW" 265 (vi 2 264), en P "WIN" 267 (vi 4 266), en P "pawn_files" 274 (vr 67), en P "pawn_place" 282 (vr 74), en P "kpk_size" 289 (vr 81), en P "kpk_index" 300 (vr 88), en P "first_result" 315 (vr 95), en P "strong_results" 332 (vr 102), en P "weak_results" 347 (vr 109), en P "classify" 363 (vr 116), en P "settle_first" 378 (vr 123), en P "settle_round" 394 (vr 130), en P "build_kpk" 410 (vr 137), en P "mirrored" 419 (vr 144), en P "flipped" 428 (vr 151), en P "probe_kpk" 441 (vr 158), en P "probe_for" 454 (vr 165), en P "STEP_FILES" 468 (vr 166), en P "STEP_RANKS" 480 (vr 167), en P "Geometry" 525 (vr 184), en P "is_growing" 532 (vr 195), en P "add_masks" 543 (vr 202), en P "inner_squares" 552 (vr 209), en P "add_rays" 566 (vr 216), en P "add_pawns" 574 (vr 223), en P "add_knights" 591 (vr 230), en P "add_castles" 604 (vr 237), en P "make_geometry" 615 (vr 244), en P "_law_near" 631 (vr 251), en P "_law_after" 651 (vr 258), en P "_law_is_won" 660 (vr 265), en P "_law_solve" 684 (vr 272), en P "_law_mirror" 692 (vr 279), en P "_law_turn" 701 (vr 286), en P "law" 733 (vr 293)] 51 }),
  (20, { cls := Value.type "code", data := Data.fields #[sv "squares_of" 189, sv "squares_of" 190, sv "/claim/cut.py" 191, vi 2 0, vi 1 0, vi 0 0, vi 0 0, vi 3 0, vr 15, Value.bool Bool.true, vi 181 0, vr 16, Value.none, vr 17, vr 18, vr 19, vi 195 0, vi 2 0, sv "/claim/cut.py" 196] }),
  (21, fnO (stAt pg.main.body 1) "squares_of" "chess.bits" 187 20),
  (34, { cls := Value.type "code", data := Data.fields #[sv "__init__" 212, sv "ChessError.__init__" 213, sv "/claim/cut.py" 214, vi 17 0, vi 2 0, vi 0 0, vi 0 0, vi 3 0, vr 29, Value.bool Bool.true, vi 181 0, vr 30, Value.none, vr 31, vr 32, vr 33, vi 217 0, vi 17 0, sv "/claim/cut.py" 218] }),
  (35, fnO (inAt (stAt pg.main.body 3) 0) "ChessError.__init__" "chess.errors" 198 34),
  (37, { cls := Value.type "dict", data := Data.dict #[en P "__module__" 207 (sv "chess.errors" 198), en P "__firstlineno__" 211 (vi 15 210), en P "__init__" 219 (vr 35), en P "__static_attributes__" 221 (vr 36), en P "__weakref__" 223 (vr 39), en P "__doc__" 224 (Value.none)] 3 }),
  (38, { cls := Value.type "type", data := Data.cls { name := Str.ofString "ChessError", bases := [Value.type "Exception"], mro := [vr 38, Value.type "Exception", Value.type "BaseException", Value.type "object"], ns := 37, qualname := Str.ofString "ChessError", subclasses := [vr 58] }, slots := #[Option.some (vr 22), Option.none, Option.some (sv "ChessError" 200), Option.some (sv "ChessError" 208), Option.some (Value.builtin "Exception.__new__"), Option.some (Value.bool Bool.true)] }),
  (39, { cls := Value.type "getset_descriptor", data := Data.fields #[sv "__weakref__" 222, vr 38, Value.builtin "ExceptionGroup.__weakref__", Value.none] }),
  (54, { cls := Value.type "code", data := Data.fields #[sv "__init__" 241, sv "BadSquare.__init__" 242, sv "/claim/cut.py" 243, vi 22 0, vi 2 0, vi 0 0, vi 0 0, vi 3 0, vr 49, Value.bool Bool.true, vi 181 0, vr 50, Value.none, vr 51, vr 52, vr 53, vi 246 0, vi 22 0, sv "/claim/cut.py" 247] }),
  (55, fnO (inAt (stAt pg.main.body 4) 0) "BadSquare.__init__" "chess.errors" 198 54),
  (57, { cls := Value.type "dict", data := Data.dict #[en P "__module__" 236 (sv "chess.errors" 198), en P "__firstlineno__" 240 (vi 20 239), en P "__init__" 248 (vr 55), en P "__static_attributes__" 250 (vr 56), en P "__doc__" 251 (Value.none)] 2 }),
  (58, { cls := Value.type "type", data := Data.cls { name := Str.ofString "BadSquare", bases := [vr 38], mro := [vr 58, vr 38, Value.type "Exception", Value.type "BaseException", Value.type "object"], ns := 57, qualname := Str.ofString "BadSquare" }, slots := #[Option.some (vr 42), Option.none, Option.some (sv "BadSquare" 229), Option.some (sv "BadSquare" 237), Option.some (Value.builtin "Exception.__new__"), Option.some (Value.bool Bool.true)] }),
  (66, { cls := Value.type "code", data := Data.fields #[sv "pawn_files" 268, sv "pawn_files" 269, sv "/claim/cut.py" 270, vi 32 0, vi 1 0, vi 0 0, vi 0 0, vi 3 0, vr 61, Value.bool Bool.true, vi 181 0, vr 62, Value.none, vr 63, vr 64, vr 65, vi 272 0, vi 32 0, sv "/claim/cut.py" 273] }),
  (67, fnO (stAt pg.main.body 12) "pawn_files" "chess.kpk" 258 66),
  (73, { cls := Value.type "code", data := Data.fields #[sv "pawn_place" 275, sv "pawn_place" 276, sv "/claim/cut.py" 277, vi 34 0, vi 2 0, vi 0 0, vi 0 0, vi 3 0, vr 68, Value.bool Bool.true, vi 181 0, vr 69, Value.none, vr 70, vr 71, vr 72, vi 280 0, vi 34 0, sv "/claim/cut.py" 281] }),
  (74, fnO (stAt pg.main.body 13) "pawn_place" "chess.kpk" 258 73),
  (80, { cls := Value.type "code", data := Data.fields #[sv "kpk_size" 283, sv "kpk_size" 284, sv "/claim/cut.py" 285, vi 36 0, vi 1 0, vi 0 0, vi 0 0, vi 3 0, vr 75, Value.bool Bool.true, vi 181 0, vr 76, Value.none, vr 77, vr 78, vr 79, vi 287 0, vi 36 0, sv "/claim/cut.py" 288] }),
  (81, fnO (stAt pg.main.body 14) "kpk_size" "chess.kpk" 258 80),
  (87, { cls := Value.type "code", data := Data.fields #[sv "kpk_index" 290, sv "kpk_index" 291, sv "/claim/cut.py" 292, vi 38 0, vi 5 0, vi 0 0, vi 0 0, vi 3 0, vr 82, Value.bool Bool.true, vi 181 0, vr 83, Value.none, vr 84, vr 85, vr 86, vi 298 0, vi 38 0, sv "/claim/cut.py" 299] }),
  (88, fnO (stAt pg.main.body 15) "kpk_index" "chess.kpk" 258 87),
  (94, { cls := Value.type "code", data := Data.fields #[sv "first_result" 301, sv "first_result" 302, sv "/claim/cut.py" 303, vi 40 0, vi 5 0, vi 0 0, vi 0 0, vi 3 0, vr 89, Value.bool Bool.true, vi 181 0, vr 90, Value.none, vr 91, vr 92, vr 93, vi 313 0, vi 40 0, sv "/claim/cut.py" 314] }),
  (95, fnO (stAt pg.main.body 16) "first_result" "chess.kpk" 258 94),
  (101, { cls := Value.type "code", data := Data.fields #[sv "strong_results" 316, sv "strong_results" 317, sv "/claim/cut.py" 318, vi 59 0, vi 6 0, vi 0 0, vi 0 0, vi 3 0, vr 96, Value.bool Bool.true, vi 181 0, vr 97, Value.none, vr 98, vr 99, vr 100, vi 330 0, vi 59 0, sv "/claim/cut.py" 331] }),
  (102, fnO (stAt pg.main.body 17) "strong_results" "chess.kpk" 258 101),
  (108, { cls := Value.type "code", data := Data.fields #[sv "weak_results" 333, sv "weak_results" 334, sv "/claim/cut.py" 335, vi 71 0, vi 6 0, vi 0 0, vi 0 0, vi 3 0, vr 103, Value.bool Bool.true, vi 181 0, vr 104, Value.none, vr 105, vr 106, vr 107, vi 345 0, vi 71 0, sv "/claim/cut.py" 346] }),
  (109, fnO (stAt pg.main.body 18) "weak_results" "chess.kpk" 258 108),
  (115, { cls := Value.type "code", data := Data.fields #[sv "classify" 348, sv "classify" 349, sv "/claim/cut.py" 350, vi 77 0, vi 7 0, vi 0 0, vi 0 0, vi 3 0, vr 110, Value.bool Bool.true, vi 181 0, vr 111, Value.none, vr 112, vr 113, vr 114, vi 361 0, vi 77 0, sv "/claim/cut.py" 362] }),
  (116, fnO (stAt pg.main.body 19) "classify" "chess.kpk" 258 115),
  (122, { cls := Value.type "code", data := Data.fields #[sv "settle_first" 364, sv "settle_first" 365, sv "/claim/cut.py" 366, vi 91 0, vi 2 0, vi 0 0, vi 0 0, vi 3 0, vr 117, Value.bool Bool.true, vi 181 0, vr 118, Value.none, vr 119, vr 120, vr 121, vi 376 0, vi 91 0, sv "/claim/cut.py" 377] }),
  (123, fnO (stAt pg.main.body 20) "settle_first" "chess.kpk" 258 122),
  (129, { cls := Value.type "code", data := Data.fields #[sv "settle_round" 379, sv "settle_round" 380, sv "/claim/cut.py" 381, vi 104 0, vi 4 0, vi 0 0, vi 0 0, vi 3 0, vr 124, Value.bool Bool.true, vi 181 0, vr 125, Value.none, vr 126, vr 127, vr 128, vi 392 0, vi 104 0, sv "/claim/cut.py" 393] }),
  (130, fnO (stAt pg.main.body 21) "settle_round" "chess.kpk" 258 129),
  (136, { cls := Value.type "code", data := Data.fields #[sv "build_kpk" 395, sv "build_kpk" 396, sv "/claim/cut.py" 397, vi 113 0, vi 1 0, vi 0 0, vi 0 0, vi 3 0, vr 131, Value.bool Bool.true, vi 181 0, vr 132, Value.none, vr 133, vr 134, vr 135, vi 408 0, vi 113 0, sv "/claim/cut.py" 409] }),
  (137, fnO (stAt pg.main.body 22) "build_kpk" "chess.kpk" 258 136),
  (143, { cls := Value.type "code", data := Data.fields #[sv "mirrored" 411, sv "mirrored" 412, sv "/claim/cut.py" 413, vi 127 0, vi 2 0, vi 0 0, vi 0 0, vi 3 0, vr 138, Value.bool Bool.true, vi 181 0, vr 139, Value.none, vr 140, vr 141, vr 142, vi 417 0, vi 127 0, sv "/claim/cut.py" 418] }),
  (144, fnO (stAt pg.main.body 23) "mirrored" "chess.kpk" 258 143),
  (150, { cls := Value.type "code", data := Data.fields #[sv "flipped" 420, sv "flipped" 421, sv "/claim/cut.py" 422, vi 130 0, vi 2 0, vi 0 0, vi 0 0, vi 3 0, vr 145, Value.bool Bool.true, vi 181 0, vr 146, Value.none, vr 147, vr 148, vr 149, vi 426 0, vi 130 0, sv "/claim/cut.py" 427] }),
  (151, fnO (stAt pg.main.body 24) "flipped" "chess.kpk" 258 150),
  (157, { cls := Value.type "code", data := Data.fields #[sv "probe_kpk" 429, sv "probe_kpk" 430, sv "/claim/cut.py" 431, vi 133 0, vi 6 0, vi 0 0, vi 0 0, vi 3 0, vr 152, Value.bool Bool.true, vi 181 0, vr 153, Value.none, vr 154, vr 155, vr 156, vi 439 0, vi 133 0, sv "/claim/cut.py" 440] }),
  (158, fnO (stAt pg.main.body 25) "probe_kpk" "chess.kpk" 258 157),
  (164, { cls := Value.type "code", data := Data.fields #[sv "probe_for" 442, sv "probe_for" 443, sv "/claim/cut.py" 444, vi 144 0, vi 7 0, vi 0 0, vi 0 0, vi 3 0, vr 159, Value.bool Bool.true, vi 181 0, vr 160, Value.none, vr 161, vr 162, vr 163, vi 452 0, vi 144 0, sv "/claim/cut.py" 453] }),
  (165, fnO (stAt pg.main.body 26) "probe_for" "chess.kpk" 258 164),
  (166, { cls := Value.type "tuple", data := Data.seq #[vi 0 457, vi 1 458, vi 0 459, vi (-1) 461, vi 1 462, vi 1 463, vi (-1) 465, vi (-1) 467] }),
  (167, { cls := Value.type "tuple", data := Data.seq #[vi 1 469, vi 0 470, vi (-1) 472, vi 0 473, vi 1 474, vi (-1) 476, vi (-1) 478, vi 1 479] }),
  (180, { cls := Value.type "code", data := Data.fields #[sv "__init__" 493, sv "Geometry.__init__" 494, sv "/claim/cut.py" 495, vi 153 0, vi 5 0, vi 0 0, vi 0 0, vi 3 0, vr 175, Value.bool Bool.true, vi 181 0, vr 176, Value.none, vr 177, vr 178, vr 179, vi 501 0, vi 153 0, sv "/claim/cut.py" 502] }),
  (181, fnO (inAt (stAt pg.main.body 30) 0) "Geometry.__init__" "chess.geometry" 455 180),
  (183, { cls := Value.type "dict", data := Data.dict #[en P "__module__" 488 (sv "chess.geometry" 455), en P "__firstlineno__" 492 (vi 151 491), en P "__init__" 503 (vr 181), en P "__static_attributes__" 518 (vr 182), en P "__dict__" 520 (vr 185), en P "__weakref__" 522 (vr 186), en P "__doc__" 523 (Value.none)] 4 }),
  (184, { cls := Value.type "type", data := Data.cls { name := Str.ofString "Geometry", bases := [Value.type "object"], mro := [vr 184, Value.type "object"], ns := 183, qualname := Str.ofString "Geometry" }, slots := #[Option.none, Option.none, Option.some (sv "Geometry" 481), Option.some (sv "Geometry" 489), Option.some (Value.builtin "object.__new__"), Option.some (Value.bool Bool.true)] }),
  (185, { cls := Value.type "getset_descriptor", data := Data.fields #[sv "__dict__" 519, vr 184, Value.builtin "function.__dict__", Value.builtin "function.__dict__#set"] }),
  (186, { cls := Value.type "getset_descriptor", data := Data.fields #[sv "__weakref__" 521, vr 184, Value.builtin "ExceptionGroup.__weakref__", Value.none] }),
  (194, { cls := Value.type "code", data := Data.fields #[sv "is_growing" 526, sv "is_growing" 527, sv "/claim/cut.py" 528, vi 168 0, vi 1 0, vi 0 0, vi 0 0, vi 3 0, vr 189, Value.bool Bool.true, vi 181 0, vr 190, Value.none, vr 191, vr 192, vr 193, vi 530 0, vi 168 0, sv "/claim/cut.py" 531] }),
  (195, fnO (stAt pg.main.body 31) "is_growing" "chess.geometry" 455 194),
  (201, { cls := Value.type "code", data := Data.fields #[sv "add_masks" 533, sv "add_masks" 534, sv "/claim/cut.py" 535, vi 170 0, vi 1 0, vi 0 0, vi 0 0, vi 3 0, vr 196, Value.bool Bool.true, vi 181 0, vr 197, Value.none, vr 198, vr 199, vr 200, vi 541 0, vi 170 0, sv "/claim/cut.py" 542] }),
  (202, fnO (stAt pg.main.body 32) "add_masks" "chess.geometry" 455 201),
  (208, { cls := Value.type "code", data := Data.fields #[sv "inner_squares" 544, sv "inner_squares" 545, sv "/claim/cut.py" 546, vi 178 0, vi 2 0, vi 0 0, vi 0 0, vi 3 0, vr 203, Value.bool Bool.true, vi 181 0, vr 204, Value.none, vr 205, vr 206, vr 207, vi 550 0, vi 178 0, sv "/claim/cut.py" 551] }),
  (209, fnO (stAt pg.main.body 33) "inner_squares" "chess.geometry" 455 208),
  (215, { cls := Value.type "code", data := Data.fields #[sv "add_rays" 553, sv "add_rays" 554, sv "/claim/cut.py" 555, vi 189 0, vi 1 0, vi 0 0, vi 0 0, vi 3 0, vr 210, Value.bool Bool.true, vi 181 0, vr 211, Value.none, vr 212, vr 213, vr 214, vi 564 0, vi 189 0, sv "/claim/cut.py" 565] }),
  (216, fnO (stAt pg.main.body 34) "add_rays" "chess.geometry" 455 215),
  (222, { cls := Value.type "code", data := Data.fields #[sv "add_pawns" 567, sv "add_pawns" 568, sv "/claim/cut.py" 569, vi 204 0, vi 1 0, vi 0 0, vi 0 0, vi 3 0, vr 217, Value.bool Bool.true, vi 181 0, vr 218, Value.none, vr 219, vr 220, vr 221, vi 572 0, vi 204 0, sv "/claim/cut.py" 573] }),
  (223, fnO (stAt pg.main.body 35) "add_pawns" "chess.geometry" 455 222),
  (229, { cls := Value.type "code", data := Data.fields #[sv "add_knights" 575, sv "add_knights" 576, sv "/claim/cut.py" 577, vi 208 0, vi 1 0, vi 0 0, vi 0 0, vi 3 0, vr 224, Value.bool Bool.true, vi 181 0, vr 225, Value.none, vr 226, vr 227, vr 228, vi 589 0, vi 208 0, sv "/claim/cut.py" 590] }),
  (230, fnO (stAt pg.main.body 36) "add_knights" "chess.geometry" 455 229),
  (236, { cls := Value.type "code", data := Data.fields #[sv "add_castles" 592, sv "add_castles" 593, sv "/claim/cut.py" 594, vi 220 0, vi 1 0, vi 0 0, vi 0 0, vi 3 0, vr 231, Value.bool Bool.true, vi 181 0, vr 232, Value.none, vr 233, vr 234, vr 235, vi 602 0, vi 220 0, sv "/claim/cut.py" 603] }),
  (237, fnO (stAt pg.main.body 37) "add_castles" "chess.geometry" 455 236),
  (243, { cls := Value.type "code", data := Data.fields #[sv "make_geometry" 605, sv "make_geometry" 606, sv "/claim/cut.py" 607, vi 237 0, vi 4 0, vi 0 0, vi 0 0, vi 3 0, vr 238, Value.bool Bool.true, vi 181 0, vr 239, Value.none, vr 240, vr 241, vr 242, vi 613 0, vi 237 0, sv "/claim/cut.py" 614] }),
  (244, fnO (stAt pg.main.body 38) "make_geometry" "chess.geometry" 455 243),
  (250, { cls := Value.type "code", data := Data.fields #[sv "_law_near" 618, sv "_law_near" 619, sv "/claim/cut.py" 620, vi 248 0, vi 2 0, vi 0 0, vi 0 0, vi 3 0, vr 245, Value.bool Bool.true, vi 181 0, vr 246, Value.none, vr 247, vr 248, vr 249, vi 629 0, vi 248 0, sv "/claim/cut.py" 630] }),
  (251, fnO (stAt pg.main.body 40) "_law_near" "law_nt0434_01" 616 250),
  (257, { cls := Value.type "code", data := Data.fields #[sv "_law_after" 632, sv "_law_after" 633, sv "/claim/cut.py" 634, vi 259 0, vi 8 0, vi 0 0, vi 0 0, vi 3 0, vr 252, Value.bool Bool.true, vi 181 0, vr 253, Value.none, vr 254, vr 255, vr 256, vi 649 0, vi 259 0, sv "/claim/cut.py" 650] }),
  (258, fnO (stAt pg.main.body 41) "_law_after" "law_nt0434_01" 616 257),
  (264, { cls := Value.type "code", data := Data.fields #[sv "_law_is_won" 652, sv "_law_is_won" 653, sv "/claim/cut.py" 654, vi 294 0, vi 3 0, vi 0 0, vi 0 0, vi 3 0, vr 259, Value.bool Bool.true, vi 181 0, vr 260, Value.none, vr 261, vr 262, vr 263, vi 658 0, vi 294 0, sv "/claim/cut.py" 659] }),
  (265, fnO (stAt pg.main.body 42) "_law_is_won" "law_nt0434_01" 616 264),
  (271, { cls := Value.type "code", data := Data.fields #[sv "_law_solve" 661, sv "_law_solve" 662, sv "/claim/cut.py" 663, vi 298 0, vi 4 0, vi 0 0, vi 0 0, vi 3 0, vr 266, Value.bool Bool.true, vi 181 0, vr 267, Value.none, vr 268, vr 269, vr 270, vi 682 0, vi 298 0, sv "/claim/cut.py" 683] }),
  (272, fnO (stAt pg.main.body 43) "_law_solve" "law_nt0434_01" 616 271),
  (278, { cls := Value.type "code", data := Data.fields #[sv "_law_mirror" 685, sv "_law_mirror" 686, sv "/claim/cut.py" 687, vi 329 0, vi 2 0, vi 0 0, vi 0 0, vi 3 0, vr 273, Value.bool Bool.true, vi 181 0, vr 274, Value.none, vr 275, vr 276, vr 277, vi 690 0, vi 329 0, sv "/claim/cut.py" 691] }),
  (279, fnO (stAt pg.main.body 44) "_law_mirror" "law_nt0434_01" 616 278),
  (285, { cls := Value.type "code", data := Data.fields #[sv "_law_turn" 693, sv "_law_turn" 694, sv "/claim/cut.py" 695, vi 331 0, vi 3 0, vi 0 0, vi 0 0, vi 3 0, vr 280, Value.bool Bool.true, vi 181 0, vr 281, Value.none, vr 282, vr 283, vr 284, vi 699 0, vi 331 0, sv "/claim/cut.py" 700] }),
  (286, fnO (stAt pg.main.body 45) "_law_turn" "law_nt0434_01" 616 285),
  (292, { cls := Value.type "code", data := Data.fields #[sv "law" 702, sv "law" 703, sv "/claim/cut.py" 704, vi 333 0, vi 1 0, vi 0 0, vi 0 0, vi 3 0, vr 287, Value.bool Bool.true, vi 181 0, vr 288, Value.none, vr 289, vr 290, vr 291, vi 731 0, vi 333 0, sv "/claim/cut.py" 732] }),
  (293, fnO (stAt pg.main.body 46) "law" "law_nt0434_01" 616 292)]
def a39 : List Nat := [2, 3, 20, 21, 34, 35, 37, 38, 39, 54, 55, 57, 58, 66, 67, 73, 74, 80, 81, 87, 88, 94, 95, 101, 102, 108, 109, 115, 116, 122, 123, 129, 130, 136, 137, 143, 144, 150, 151, 157, 158, 164, 165, 166, 167, 180, 181, 183, 184, 185, 186, 194, 195, 201, 202, 208, 209, 215, 216, 222, 223, 229, 230, 236, 237, 243, 244, 250, 251, 257, 258, 264, 265, 271, 272, 278, 279, 285, 286, 292, 293]
def keepN : List Nat := [1, 3, 4, 5, 6, 8, 9, 10, 11, 12, 13, 14, 15, 16, 17, 18, 19, 20, 21, 22, 23, 24, 25, 26, 28, 29, 30, 31, 32, 33, 34, 35, 36, 37, 38, 40, 41, 42, 43, 44, 45, 46]
def q39 : Program := view pg keepN
end
end Kp
end
-- part KpProofs
section
set_option autoImplicit false
set_option linter.unusedVariables false
set_option maxRecDepth 100000
set_option Elab.async false
namespace Kp
open PySem PySem.W PyProof.Rows PySem.Calls

structure Own (G : Base) : Prop where
  K : G.K = kP G.w.params
  C : G.C = 184
  fI : G.fI = 181
theorem Own.at {G : Base} (B : Own G) {a : Addr} {o : Obj} (h : (kP G.w.params).lookup a = some o) : G.h₀.get? a = some o := G.X _ _ (by rw [B.K]; exact h)
theorem Own.glob {G : Base} (B : Own G) {x : Str} {v : Value} (h : nsIn (kP G.w.params) mainGlobals x = some (some v)) : G.mg x = some v := mg_of G.X G.g (by rw [B.K]; exact h)
section
variable {G : Base}
theorem mg_WHITE (B : Own G) : G.mg "WHITE" = some (.int 0 254) := B.glob (by kernel_rfl)
theorem vr_WHITE (B : Own G) : ∀ φ h, (∀ b o, G.h₀.get? b = some o → h.get? b = some o) → VR φ h (.int 0) (.int 0 254) := fun _ _ _ => VR.mkInt _ _
theorem mg_BLACK (B : Own G) : G.mg "BLACK" = some (.int 1 256) := B.glob (by kernel_rfl)
theorem vr_BLACK (B : Own G) : ∀ φ h, (∀ b o, G.h₀.get? b = some o → h.get? b = some o) → VR φ h (.int 1) (.int 1 256) := fun _ _ _ => VR.mkInt _ _
theorem mg_INVALID (B : Own G) : G.mg "INVALID" = some (.int 0 260) := B.glob (by kernel_rfl)
theorem vr_INVALID (B : Own G) : ∀ φ h, (∀ b o, G.h₀.get? b = some o → h.get? b = some o) → VR φ h (.int 0) (.int 0 260) := fun _ _ _ => VR.mkInt _ _
theorem mg_UNKNOWN (B : Own G) : G.mg "UNKNOWN" = some (.int 1 262) := B.glob (by kernel_rfl)
theorem vr_UNKNOWN (B : Own G) : ∀ φ h, (∀ b o, G.h₀.get? b = some o → h.get? b = some o) → VR φ h (.int 1) (.int 1 262) := fun _ _ _ => VR.mkInt _ _
theorem mg_DRAW (B : Own G) : G.mg "DRAW" = some (.int 2 264) := B.glob (by kernel_rfl)
theorem vr_DRAW (B : Own G) : ∀ φ h, (∀ b o, G.h₀.get? b = some o → h.get? b = some o) → VR φ h (.int 2) (.int 2 264) := fun _ _ _ => VR.mkInt _ _
theorem mg_WIN (B : Own G) : G.mg "WIN" = some (.int 4 266) := B.glob (by kernel_rfl)
theorem vr_WIN (B : Own G) : ∀ φ h, (∀ b o, G.h₀.get? b = some o → h.get? b = some o) → VR φ h (.int 4) (.int 4 266) := fun _ _ _ => VR.mkInt _ _
theorem mg_STEP_FILES (B : Own G) : G.mg "STEP_FILES" = some (.ref 166) := B.glob (by kernel_rfl)
theorem vr_STEP_FILES (B : Own G) : ∀ φ h, (∀ b o, G.h₀.get? b = some o → h.get? b = some o) → VR φ h (.tup [.int (.ofNat (nat_lit 0)), .int (.ofNat (nat_lit 1)), .int (.ofNat (nat_lit 0)), .int (.negSucc (nat_lit 0)), .int (.ofNat (nat_lit 1)), .int (.ofNat (nat_lit 1)), .int (.negSucc (nat_lit 0)), .int (.negSucc (nat_lit 0))]) (.ref 166) := fun φ h k => ⟨166, _, rfl, ⟨_, k _ _ (B.at rfl), rfl, _, rfl⟩, VsR.cons (VR.mkInt _ _) (VsR.cons (VR.mkInt _ _) (VsR.cons (VR.mkInt _ _) (VsR.cons (VR.mkInt _ _) (VsR.cons (VR.mkInt _ _) (VsR.cons (VR.mkInt _ _) (VsR.cons (VR.mkInt _ _) (VsR.cons (VR.mkInt _ _) (VsR.nil))))))))⟩
theorem mg_STEP_RANKS (B : Own G) : G.mg "STEP_RANKS" = some (.ref 167) := B.glob (by kernel_rfl)
theorem vr_STEP_RANKS (B : Own G) : ∀ φ h, (∀ b o, G.h₀.get? b = some o → h.get? b = some o) → VR φ h (.tup [.int (.ofNat (nat_lit 1)), .int (.ofNat (nat_lit 0)), .int (.negSucc (nat_lit 0)), .int (.ofNat (nat_lit 0)), .int (.ofNat (nat_lit 1)), .int (.negSucc (nat_lit 0)), .int (.negSucc (nat_lit 0)), .int (.ofNat (nat_lit 1))]) (.ref 167) := fun φ h k => ⟨167, _, rfl, ⟨_, k _ _ (B.at rfl), rfl, _, rfl⟩, VsR.cons (VR.mkInt _ _) (VsR.cons (VR.mkInt _ _) (VsR.cons (VR.mkInt _ _) (VsR.cons (VR.mkInt _ _) (VsR.cons (VR.mkInt _ _) (VsR.cons (VR.mkInt _ _) (VsR.cons (VR.mkInt _ _) (VsR.cons (VR.mkInt _ _) (VsR.nil))))))))⟩
theorem ss_raise {f : Fx} {n : Nat} {st : Stmt} : SS G f n sraise st := fun A L φ η loc s kn kr kb kc hA S h => by cases h
theorem mg_Geometry (B : Own G) : G.mg "Geometry" = some (.ref G.C) := by rw [B.C]; exact B.glob (by kernel_rfl)
theorem keep_Geometry (B : Own G) : keepIn G.K (.ref G.C) = true := by rw [B.K, B.C]; kernel_rfl

theorem at_squares_of (B : Own G) : FnAt G "squares_of" 21 := ⟨B.glob (by kernel_rfl), _, _, B.at rfl, rfl⟩
theorem fs_squares_of (B : Own G) : FS G 1 f_squares_of 21 := by
  refine FS.of (G := G) (f := Fx.mk "squares_of" ?cs 21 (.ref 20) ["b", "out", "square"]) (n := 0) (fo := ?fo) (fname := ?p0) (params := ?p1) (body := ?p2) (doc := ?p3) (pm := ?p4) (ct := ?p5) (an := ?p6) ?ok (B.at ?hl) ?hd ?hcd ?hu ?hlen ?hcell ?hbind ?hb ?hco ?hgen
  case hl => exact rfl
  case hd => exact rfl
  case ok => exact ⟨rfl, by decide +kernel, by decide +kernel, by decide +kernel⟩
  case hcd => exact ⟨_, _, _, _, rfl, B.at (by rfl), rfl, rfl⟩
  case hu => rfl
  case hlen => decide
  case hcell => decide +kernel
  case hbind => intro us h; rcases us with _ | ⟨_, _ | ⟨_, us⟩⟩ <;> first | rfl | (exfalso; simp only [List.length_cons, List.length_nil] at h; omega)
  case hco => rfl
  case hgen => rfl
  case hb =>
    intro ok
    unfold b_squares_of
    exact (bs_cons (ss_set ok rfl (es_list ls_nil))
     (bs_cons (ss_set ok rfl (es_int rfl))
     (bs_cons (ss_while (TS.of (es_loc ok rfl))
      (bs_cons (ss_while (ts_not (TS.of (es_bin (op_and _) (es_loc ok rfl) (es_int rfl))))
       (bs_cons (ss_aug ok rfl (iop_shr _) (es_int rfl))
       (bs_one (ss_aug ok rfl (iop_add _) (es_int rfl)))))
      (bs_cons (ss_if (TS.of (es_bin (op_and _) (es_loc ok rfl) (es_int rfl)))
       (bs_one (ss_expr (es_append (es_loc ok rfl) (es_loc ok rfl) rfl) (by intro _; rfl)))
       bs_nil)
      (bs_cons (ss_aug ok rfl (iop_shr _) (es_int rfl))
      (bs_one (ss_aug ok rfl (iop_add _) (es_int rfl)))))))
     (bs_one (ss_ret (es_loc ok rfl))))))

theorem at_pawn_files (B : Own G) : FnAt G "pawn_files" 67 := ⟨B.glob (by kernel_rfl), _, _, B.at rfl, rfl⟩
theorem fs_pawn_files (B : Own G) : FS G 1 f_pawn_files 67 := by
  refine FS.of (G := G) (f := Fx.mk "pawn_files" ?cs 67 (.ref 66) ["geo"]) (n := 0) (fo := ?fo) (fname := ?p0) (params := ?p1) (body := ?p2) (doc := ?p3) (pm := ?p4) (ct := ?p5) (an := ?p6) ?ok (B.at ?hl) ?hd ?hcd ?hu ?hlen ?hcell ?hbind ?hb ?hco ?hgen
  case hl => exact rfl
  case hd => exact rfl
  case ok => exact ⟨rfl, by decide +kernel, by decide +kernel, by decide +kernel⟩
  case hcd => exact ⟨_, _, _, _, rfl, B.at (by rfl), rfl, rfl⟩
  case hu => rfl
  case hlen => decide
  case hcell => decide +kernel
  case hbind => intro us h; rcases us with _ | ⟨_, _ | ⟨_, us⟩⟩ <;> first | rfl | (exfalso; simp only [List.length_cons, List.length_nil] at h; omega)
  case hco => rfl
  case hgen => rfl
  case hb =>
    intro ok
    unfold b_pawn_files
    exact (bs_one (ss_ret (es_bin (op_div _) (es_bin (op_add _) (es_attr rfl (es_loc ok rfl)) (es_int rfl)) (es_int rfl))))

theorem at_pawn_place (B : Own G) : FnAt G "pawn_place" 74 := ⟨B.glob (by kernel_rfl), _, _, B.at rfl, rfl⟩
theorem fs_pawn_place (B : Own G) : FS G 1 f_pawn_place 74 := by
  refine FS.of (G := G) (f := Fx.mk "pawn_place" ?cs 74 (.ref 73) ["geo", "pawn"]) (n := 0) (fo := ?fo) (fname := ?p0) (params := ?p1) (body := ?p2) (doc := ?p3) (pm := ?p4) (ct := ?p5) (an := ?p6) ?ok (B.at ?hl) ?hd ?hcd ?hu ?hlen ?hcell ?hbind ?hb ?hco ?hgen
  case hl => exact rfl
  case hd => exact rfl
  case ok => exact ⟨rfl, by decide +kernel, by decide +kernel, by decide +kernel⟩
  case hcd => exact ⟨_, _, _, _, rfl, B.at (by rfl), rfl, rfl⟩
  case hu => rfl
  case hlen => decide
  case hcell => decide +kernel
  case hbind => intro us h; rcases us with _ | ⟨_, _ | ⟨_, _ | ⟨_, us⟩⟩⟩ <;> first | rfl | (exfalso; simp only [List.length_cons, List.length_nil] at h; omega)
  case hco => rfl
  case hgen => rfl
  case hb =>
    intro ok
    unfold b_pawn_place
    exact (bs_one (ss_ret (es_bin (op_sub _) (es_bin (op_add _) (es_bin (op_mul _) (es_bin (op_mod _) (es_loc ok rfl) (es_attr rfl (es_loc ok rfl))) (es_bin (op_sub _) (es_attr rfl (es_loc ok rfl)) (es_int rfl))) (es_bin (op_div _) (es_loc ok rfl) (es_attr rfl (es_loc ok rfl)))) (es_int rfl))))

theorem at_kpk_size (B : Own G) : FnAt G "kpk_size" 81 := ⟨B.glob (by kernel_rfl), _, _, B.at rfl, rfl⟩
theorem fs_kpk_size (B : Own G) : FS G 2 f_kpk_size 81 := by
  refine FS.of (G := G) (f := Fx.mk "kpk_size" ?cs 81 (.ref 80) ["geo"]) (n := 1) (fo := ?fo) (fname := ?p0) (params := ?p1) (body := ?p2) (doc := ?p3) (pm := ?p4) (ct := ?p5) (an := ?p6) ?ok (B.at ?hl) ?hd ?hcd ?hu ?hlen ?hcell ?hbind ?hb ?hco ?hgen
  case hl => exact rfl
  case hd => exact rfl
  case ok => exact ⟨rfl, by decide +kernel, by decide +kernel, by decide +kernel⟩
  case hcd => exact ⟨_, _, _, _, rfl, B.at (by rfl), rfl, rfl⟩
  case hu => rfl
  case hlen => decide
  case hcell => decide +kernel
  case hbind => intro us h; rcases us with _ | ⟨_, _ | ⟨_, us⟩⟩ <;> first | rfl | (exfalso; simp only [List.length_cons, List.length_nil] at h; omega)
  case hco => rfl
  case hgen => rfl
  case hb =>
    intro ok
    unfold b_kpk_size
    exact (bs_one (ss_ret (es_bin (op_mul _) (es_bin (op_mul _) (es_bin (op_mul _) (es_bin (op_mul _) (es_call ok (by kernel_rfl) (by kernel_rfl) (at_pawn_files B) ((fs_pawn_files B).more (by decide)) (ls_cons (es_loc ok rfl) ls_nil)) (es_bin (op_sub _) (es_attr rfl (es_loc ok rfl)) (es_int rfl))) (es_int rfl)) (es_attr rfl (es_loc ok rfl))) (es_attr rfl (es_loc ok rfl)))))

theorem at_kpk_index (B : Own G) : FnAt G "kpk_index" 88 := ⟨B.glob (by kernel_rfl), _, _, B.at rfl, rfl⟩
theorem fs_kpk_index (B : Own G) : FS G 2 f_kpk_index 88 := by
  refine FS.of (G := G) (f := Fx.mk "kpk_index" ?cs 88 (.ref 87) ["geo", "side", "strong", "pawn", "weak"]) (n := 1) (fo := ?fo) (fname := ?p0) (params := ?p1) (body := ?p2) (doc := ?p3) (pm := ?p4) (ct := ?p5) (an := ?p6) ?ok (B.at ?hl) ?hd ?hcd ?hu ?hlen ?hcell ?hbind ?hb ?hco ?hgen
  case hl => exact rfl
  case hd => exact rfl
  case ok => exact ⟨rfl, by decide +kernel, by decide +kernel, by decide +kernel⟩
  case hcd => exact ⟨_, _, _, _, rfl, B.at (by rfl), rfl, rfl⟩
  case hu => rfl
  case hlen => decide
  case hcell => decide +kernel
  case hbind => intro us h; rcases us with _ | ⟨_, _ | ⟨_, _ | ⟨_, _ | ⟨_, _ | ⟨_, _ | ⟨_, us⟩⟩⟩⟩⟩⟩ <;> first | rfl | (exfalso; simp only [List.length_cons, List.length_nil] at h; omega)
  case hco => rfl
  case hgen => rfl
  case hb =>
    intro ok
    unfold b_kpk_index
    exact (bs_one (ss_ret (es_bin (op_add _) (es_bin (op_mul _) (es_bin (op_add _) (es_bin (op_mul _) (es_bin (op_add _) (es_bin (op_mul _) (es_call ok (by kernel_rfl) (by kernel_rfl) (at_pawn_place B) ((fs_pawn_place B).more (by decide)) (ls_cons (es_loc ok rfl) (ls_cons (es_loc ok rfl) ls_nil))) (es_int rfl)) (es_loc ok rfl)) (es_attr rfl (es_loc ok rfl))) (es_loc ok rfl)) (es_attr rfl (es_loc ok rfl))) (es_loc ok rfl))))

theorem at_first_result (B : Own G) : FnAt G "first_result" 95 := ⟨B.glob (by kernel_rfl), _, _, B.at rfl, rfl⟩
theorem fs_first_result (B : Own G) : FS G 1 f_first_result 95 := by
  refine FS.of (G := G) (f := Fx.mk "first_result" ?cs 95 (.ref 94) ["geo", "side", "strong", "pawn", "weak", "steps", "guarded", "held", "goal"]) (n := 0) (fo := ?fo) (fname := ?p0) (params := ?p1) (body := ?p2) (doc := ?p3) (pm := ?p4) (ct := ?p5) (an := ?p6) ?ok (B.at ?hl) ?hd ?hcd ?hu ?hlen ?hcell ?hbind ?hb ?hco ?hgen
  case hl => exact rfl
  case hd => exact rfl
  case ok => exact ⟨rfl, by decide +kernel, by decide +kernel, by decide +kernel⟩
  case hcd => exact ⟨_, _, _, _, rfl, B.at (by rfl), rfl, rfl⟩
  case hu => rfl
  case hlen => decide
  case hcell => decide +kernel
  case hbind => intro us h; rcases us with _ | ⟨_, _ | ⟨_, _ | ⟨_, _ | ⟨_, _ | ⟨_, _ | ⟨_, us⟩⟩⟩⟩⟩⟩ <;> first | rfl | (exfalso; simp only [List.length_cons, List.length_nil] at h; omega)
  case hco => rfl
  case hgen => rfl
  case hb =>
    intro ok
    unfold b_first_result
    exact (bs_cons (ss_set ok rfl (es_sub (es_attr rfl (es_loc ok rfl)) (es_loc ok rfl)))
     (bs_cons (ss_set ok rfl (es_sub (es_attr rfl (es_loc ok rfl)) (es_loc ok rfl)))
     (bs_cons (ss_if (ts_bool (at_or (ts_cmp (cm_eq _) (es_loc ok rfl) (es_loc ok rfl)) (at_one (ts_cmp (cm_eq _) (es_loc ok rfl) (es_loc ok rfl)))))
      (bs_one (ss_ret (es_glob ok (by kernel_rfl) (mg_INVALID B) (vr_INVALID B) (by kernel_rfl))))
      bs_nil)
     (bs_cons (ss_set ok rfl (es_sub (es_sub (es_attr rfl (es_loc ok rfl)) (es_glob ok (by kernel_rfl) (mg_WHITE B) (vr_WHITE B) (by kernel_rfl))) (es_loc ok rfl)))
     (bs_cons (ss_if (ts_cmp (cm_eq _) (es_loc ok rfl) (es_glob ok (by kernel_rfl) (mg_WHITE B) (vr_WHITE B) (by kernel_rfl)))
      (bs_cons (ss_if (TS.of (es_bin (op_and _) (es_bin (op_shr _) (es_loc ok rfl) (es_loc ok rfl)) (es_int rfl)))
       (bs_one (ss_ret (es_glob ok (by kernel_rfl) (mg_INVALID B) (vr_INVALID B) (by kernel_rfl))))
       bs_nil)
      (bs_cons (ss_set ok rfl (es_bin (op_add _) (es_loc ok rfl) (es_attr rfl (es_loc ok rfl))))
      (bs_cons (ss_if (ts_bool (at_and (ts_cmp (cm_eq _) (es_bin (op_div _) (es_loc ok rfl) (es_attr rfl (es_loc ok rfl))) (es_bin (op_sub _) (es_attr rfl (es_loc ok rfl)) (es_int rfl))) (at_and (ts_cmp (cm_ne _) (es_loc ok rfl) (es_loc ok rfl)) (at_one (ts_cmp (cm_ne _) (es_loc ok rfl) (es_loc ok rfl))))))
       (bs_one (ss_if (ts_bool (at_or (ts_not (TS.of (es_bin (op_and _) (es_bin (op_shr _) (es_loc ok rfl) (es_loc ok rfl)) (es_int rfl)))) (at_one (TS.of (es_bin (op_and _) (es_bin (op_shr _) (es_loc ok rfl) (es_loc ok rfl)) (es_int rfl))))))
        (bs_one (ss_ret (es_glob ok (by kernel_rfl) (mg_WIN B) (vr_WIN B) (by kernel_rfl))))
        bs_nil))
       bs_nil)
      (bs_one (ss_ret (es_glob ok (by kernel_rfl) (mg_UNKNOWN B) (vr_UNKNOWN B) (by kernel_rfl)))))))
      bs_nil)
     (bs_cons (ss_if (ts_cmp (cm_eq _) (es_bin (op_and _) (es_loc ok rfl) (es_bin (op_or _) (es_loc ok rfl) (es_loc ok rfl))) (es_loc ok rfl))
      (bs_one (ss_ret (es_glob ok (by kernel_rfl) (mg_DRAW B) (vr_DRAW B) (by kernel_rfl))))
      bs_nil)
     (bs_cons (ss_if (ts_bool (at_and (TS.of (es_bin (op_and _) (es_bin (op_shr _) (es_loc ok rfl) (es_loc ok rfl)) (es_int rfl))) (at_one (ts_not (TS.of (es_bin (op_and _) (es_bin (op_shr _) (es_loc ok rfl) (es_loc ok rfl)) (es_int rfl)))))))
      (bs_one (ss_ret (es_glob ok (by kernel_rfl) (mg_DRAW B) (vr_DRAW B) (by kernel_rfl))))
      bs_nil)
     (bs_one (ss_ret (es_glob ok (by kernel_rfl) (mg_UNKNOWN B) (vr_UNKNOWN B) (by kernel_rfl)))))))))))

theorem at_strong_results (B : Own G) : FnAt G "strong_results" 102 := ⟨B.glob (by kernel_rfl), _, _, B.at rfl, rfl⟩
theorem fs_strong_results (B : Own G) : FS G 3 f_strong_results 102 := by
  refine FS.of (G := G) (f := Fx.mk "strong_results" ?cs 102 (.ref 101) ["geo", "base", "steps", "strong", "pawn", "weak", "found", "start", "goal", "rank", "ahead"]) (n := 2) (fo := ?fo) (fname := ?p0) (params := ?p1) (body := ?p2) (doc := ?p3) (pm := ?p4) (ct := ?p5) (an := ?p6) ?ok (B.at ?hl) ?hd ?hcd ?hu ?hlen ?hcell ?hbind ?hb ?hco ?hgen
  case hl => exact rfl
  case hd => exact rfl
  case ok => exact ⟨rfl, by decide +kernel, by decide +kernel, by decide +kernel⟩
  case hcd => exact ⟨_, _, _, _, rfl, B.at (by rfl), rfl, rfl⟩
  case hu => rfl
  case hlen => decide
  case hcell => decide +kernel
  case hbind => intro us h; rcases us with _ | ⟨_, _ | ⟨_, _ | ⟨_, _ | ⟨_, _ | ⟨_, _ | ⟨_, _ | ⟨_, us⟩⟩⟩⟩⟩⟩⟩ <;> first | rfl | (exfalso; simp only [List.length_cons, List.length_nil] at h; omega)
  case hco => rfl
  case hgen => rfl
  case hb =>
    intro ok
    unfold b_strong_results
    exact (bs_cons (ss_set ok rfl (es_glob ok (by kernel_rfl) (mg_INVALID B) (vr_INVALID B) (by kernel_rfl)))
     (bs_cons (ss_set ok rfl (es_call ok (by kernel_rfl) (by kernel_rfl) (at_kpk_index B) ((fs_kpk_index B).more (by decide)) (ls_cons (es_loc ok rfl) (ls_cons (es_glob ok (by kernel_rfl) (mg_BLACK B) (vr_BLACK B) (by kernel_rfl)) (ls_cons (es_int rfl) (ls_cons (es_loc ok rfl) (ls_cons (es_loc ok rfl) ls_nil)))))))
     (bs_cons (ss_for (tgt_var ok rfl) (es_sub (es_loc ok rfl) (es_loc ok rfl))
      (bs_one (ss_aug ok rfl (iop_or _) (es_sub (es_loc ok rfl) (es_bin (op_add _) (es_loc ok rfl) (es_loc ok rfl))))))
     (bs_cons (ss_set ok rfl (es_bin (op_div _) (es_loc ok rfl) (es_attr rfl (es_loc ok rfl))))
     (bs_cons (ss_if (ts_cmp (cm_lt _) (es_loc ok rfl) (es_bin (op_sub _) (es_attr rfl (es_loc ok rfl)) (es_int rfl)))
      (bs_cons (ss_set ok rfl (es_bin (op_add _) (es_loc ok rfl) (es_attr rfl (es_loc ok rfl))))
      (bs_cons (ss_aug ok rfl (iop_or _) (es_sub (es_loc ok rfl) (es_call ok (by kernel_rfl) (by kernel_rfl) (at_kpk_index B) ((fs_kpk_index B).more (by decide)) (ls_cons (es_loc ok rfl) (ls_cons (es_glob ok (by kernel_rfl) (mg_BLACK B) (vr_BLACK B) (by kernel_rfl)) (ls_cons (es_loc ok rfl) (ls_cons (es_loc ok rfl) (ls_cons (es_loc ok rfl) ls_nil))))))))
      (bs_one (ss_if (ts_bool (at_and (ts_cmp (cm_eq _) (es_loc ok rfl) (es_int rfl)) (at_and (TS.of (es_attr rfl (es_loc ok rfl))) (at_and (ts_cmp (cm_ne _) (es_loc ok rfl) (es_loc ok rfl)) (at_one (ts_cmp (cm_ne _) (es_loc ok rfl) (es_loc ok rfl)))))))
       (bs_one (ss_aug ok rfl (iop_or _) (es_sub (es_loc ok rfl) (es_call ok (by kernel_rfl) (by kernel_rfl) (at_kpk_index B) ((fs_kpk_index B).more (by decide)) (ls_cons (es_loc ok rfl) (ls_cons (es_glob ok (by kernel_rfl) (mg_BLACK B) (vr_BLACK B) (by kernel_rfl)) (ls_cons (es_loc ok rfl) (ls_cons (es_bin (op_add _) (es_loc ok rfl) (es_attr rfl (es_loc ok rfl))) (ls_cons (es_loc ok rfl) ls_nil)))))))))
       bs_nil))))
      bs_nil)
     (bs_one (ss_ret (es_loc ok rfl))))))))

theorem at_weak_results (B : Own G) : FnAt G "weak_results" 109 := ⟨B.glob (by kernel_rfl), _, _, B.at rfl, rfl⟩
theorem fs_weak_results (B : Own G) : FS G 3 f_weak_results 109 := by
  refine FS.of (G := G) (f := Fx.mk "weak_results" ?cs 109 (.ref 108) ["geo", "base", "steps", "strong", "pawn", "weak", "found", "start", "goal"]) (n := 2) (fo := ?fo) (fname := ?p0) (params := ?p1) (body := ?p2) (doc := ?p3) (pm := ?p4) (ct := ?p5) (an := ?p6) ?ok (B.at ?hl) ?hd ?hcd ?hu ?hlen ?hcell ?hbind ?hb ?hco ?hgen
  case hl => exact rfl
  case hd => exact rfl
  case ok => exact ⟨rfl, by decide +kernel, by decide +kernel, by decide +kernel⟩
  case hcd => exact ⟨_, _, _, _, rfl, B.at (by rfl), rfl, rfl⟩
  case hu => rfl
  case hlen => decide
  case hcell => decide +kernel
  case hbind => intro us h; rcases us with _ | ⟨_, _ | ⟨_, _ | ⟨_, _ | ⟨_, _ | ⟨_, _ | ⟨_, _ | ⟨_, us⟩⟩⟩⟩⟩⟩⟩ <;> first | rfl | (exfalso; simp only [List.length_cons, List.length_nil] at h; omega)
  case hco => rfl
  case hgen => rfl
  case hb =>
    intro ok
    unfold b_weak_results
    exact (bs_cons (ss_set ok rfl (es_glob ok (by kernel_rfl) (mg_INVALID B) (vr_INVALID B) (by kernel_rfl)))
     (bs_cons (ss_set ok rfl (es_call ok (by kernel_rfl) (by kernel_rfl) (at_kpk_index B) ((fs_kpk_index B).more (by decide)) (ls_cons (es_loc ok rfl) (ls_cons (es_glob ok (by kernel_rfl) (mg_WHITE B) (vr_WHITE B) (by kernel_rfl)) (ls_cons (es_loc ok rfl) (ls_cons (es_loc ok rfl) (ls_cons (es_int rfl) ls_nil)))))))
     (bs_cons (ss_for (tgt_var ok rfl) (es_sub (es_loc ok rfl) (es_loc ok rfl))
      (bs_one (ss_aug ok rfl (iop_or _) (es_sub (es_loc ok rfl) (es_bin (op_add _) (es_loc ok rfl) (es_bin (op_mul _) (es_loc ok rfl) (es_attr rfl (es_loc ok rfl))))))))
     (bs_one (ss_ret (es_loc ok rfl))))))

theorem at_classify (B : Own G) : FnAt G "classify" 116 := ⟨B.glob (by kernel_rfl), _, _, B.at rfl, rfl⟩
theorem fs_classify (B : Own G) : FS G 4 f_classify 116 := by
  refine FS.of (G := G) (f := Fx.mk "classify" ?cs 116 (.ref 115) ["geo", "base", "steps", "side", "strong", "pawn", "weak", "found", "good", "bad"]) (n := 3) (fo := ?fo) (fname := ?p0) (params := ?p1) (body := ?p2) (doc := ?p3) (pm := ?p4) (ct := ?p5) (an := ?p6) ?ok (B.at ?hl) ?hd ?hcd ?hu ?hlen ?hcell ?hbind ?hb ?hco ?hgen
  case hl => exact rfl
  case hd => exact rfl
  case ok => exact ⟨rfl, by decide +kernel, by decide +kernel, by decide +kernel⟩
  case hcd => exact ⟨_, _, _, _, rfl, B.at (by rfl), rfl, rfl⟩
  case hu => rfl
  case hlen => decide
  case hcell => decide +kernel
  case hbind => intro us h; rcases us with _ | ⟨_, _ | ⟨_, _ | ⟨_, _ | ⟨_, _ | ⟨_, _ | ⟨_, _ | ⟨_, _ | ⟨_, us⟩⟩⟩⟩⟩⟩⟩⟩ <;> first | rfl | (exfalso; simp only [List.length_cons, List.length_nil] at h; omega)
  case hco => rfl
  case hgen => rfl
  case hb =>
    intro ok
    unfold b_classify
    exact (bs_cons (ss_if (ts_cmp (cm_eq _) (es_loc ok rfl) (es_glob ok (by kernel_rfl) (mg_WHITE B) (vr_WHITE B) (by kernel_rfl)))
      (bs_cons (ss_set ok rfl (es_call ok (by kernel_rfl) (by kernel_rfl) (at_strong_results B) ((fs_strong_results B).more (by decide)) (ls_cons (es_loc ok rfl) (ls_cons (es_loc ok rfl) (ls_cons (es_loc ok rfl) (ls_cons (es_loc ok rfl) (ls_cons (es_loc ok rfl) (ls_cons (es_loc ok rfl) ls_nil))))))))
      (bs_cons (ss_set ok rfl (es_glob ok (by kernel_rfl) (mg_WIN B) (vr_WIN B) (by kernel_rfl)))
      (bs_one (ss_set ok rfl (es_glob ok (by kernel_rfl) (mg_DRAW B) (vr_DRAW B) (by kernel_rfl))))))
      (bs_cons (ss_set ok rfl (es_call ok (by kernel_rfl) (by kernel_rfl) (at_weak_results B) ((fs_weak_results B).more (by decide)) (ls_cons (es_loc ok rfl) (ls_cons (es_loc ok rfl) (ls_cons (es_loc ok rfl) (ls_cons (es_loc ok rfl) (ls_cons (es_loc ok rfl) (ls_cons (es_loc ok rfl) ls_nil))))))))
      (bs_cons (ss_set ok rfl (es_glob ok (by kernel_rfl) (mg_DRAW B) (vr_DRAW B) (by kernel_rfl)))
      (bs_one (ss_set ok rfl (es_glob ok (by kernel_rfl) (mg_WIN B) (vr_WIN B) (by kernel_rfl)))))))
     (bs_cons (ss_if (TS.of (es_bin (op_and _) (es_loc ok rfl) (es_loc ok rfl)))
      (bs_one (ss_ret (es_loc ok rfl)))
      bs_nil)
     (bs_cons (ss_if (TS.of (es_bin (op_and _) (es_loc ok rfl) (es_glob ok (by kernel_rfl) (mg_UNKNOWN B) (vr_UNKNOWN B) (by kernel_rfl))))
      (bs_one (ss_ret (es_glob ok (by kernel_rfl) (mg_UNKNOWN B) (vr_UNKNOWN B) (by kernel_rfl))))
      bs_nil)
     (bs_one (ss_ret (es_loc ok rfl))))))

theorem at_settle_first (B : Own G) : FnAt G "settle_first" 123 := ⟨B.glob (by kernel_rfl), _, _, B.at rfl, rfl⟩
theorem fs_settle_first (B : Own G) : FS G 3 f_settle_first 123 := by
  refine FS.of (G := G) (f := Fx.mk "settle_first" ?cs 123 (.ref 122) ["geo", "base", "unknown", "pawn", "weak", "far", "strong", "side", "result"]) (n := 2) (fo := ?fo) (fname := ?p0) (params := ?p1) (body := ?p2) (doc := ?p3) (pm := ?p4) (ct := ?p5) (an := ?p6) ?ok (B.at ?hl) ?hd ?hcd ?hu ?hlen ?hcell ?hbind ?hb ?hco ?hgen
  case hl => exact rfl
  case hd => exact rfl
  case ok => exact ⟨rfl, by decide +kernel, by decide +kernel, by decide +kernel⟩
  case hcd => exact ⟨_, _, _, _, rfl, B.at (by rfl), rfl, rfl⟩
  case hu => rfl
  case hlen => decide
  case hcell => decide +kernel
  case hbind => intro us h; rcases us with _ | ⟨_, _ | ⟨_, _ | ⟨_, us⟩⟩⟩ <;> first | rfl | (exfalso; simp only [List.length_cons, List.length_nil] at h; omega)
  case hco => rfl
  case hgen => rfl
  case hb =>
    intro ok
    unfold b_settle_first
    exact (bs_cons (ss_set ok rfl (es_list ls_nil))
     (bs_cons (ss_for (tgt_var ok rfl) (es_range3 ok (by kernel_rfl) (es_bin (op_sub _) (es_bin (op_sub _) (es_attr rfl (es_loc ok rfl)) (es_attr rfl (es_loc ok rfl))) (es_int rfl)) (es_bin (op_sub _) (es_attr rfl (es_loc ok rfl)) (es_int rfl)) (es_neg (es_int rfl)))
      (bs_one (ss_if (ts_cmp (cm_lt _) (es_bin (op_mod _) (es_loc ok rfl) (es_attr rfl (es_loc ok rfl))) (es_call ok (by kernel_rfl) (by kernel_rfl) (at_pawn_files B) ((fs_pawn_files B).more (by decide)) (ls_cons (es_loc ok rfl) ls_nil)))
       (bs_one (ss_for (tgt_var ok rfl) (es_range1 ok (by kernel_rfl) (es_attr rfl (es_loc ok rfl)))
        (bs_cons (ss_set ok rfl (es_call ok (by kernel_rfl) (by kernel_rfl) (at_squares_of B) ((fs_squares_of B).more (by decide)) (ls_cons (es_bin (op_xor _) (es_attr rfl (es_loc ok rfl)) (es_bin (op_or _) (es_sub (es_attr rfl (es_loc ok rfl)) (es_loc ok rfl)) (es_bin (op_shl _) (es_int rfl) (es_loc ok rfl)))) ls_nil)))
        (bs_one (ss_for (tgt_var ok rfl) (es_loc ok rfl)
         (bs_one (ss_for (tgt_var ok rfl) (es_tup (ls_cons (es_glob ok (by kernel_rfl) (mg_WHITE B) (vr_WHITE B) (by kernel_rfl)) (ls_cons (es_glob ok (by kernel_rfl) (mg_BLACK B) (vr_BLACK B) (by kernel_rfl)) ls_nil)))
          (bs_cons (ss_set ok rfl (es_call ok (by kernel_rfl) (by kernel_rfl) (at_first_result B) ((fs_first_result B).more (by decide)) (ls_cons (es_loc ok rfl) (ls_cons (es_loc ok rfl) (ls_cons (es_loc ok rfl) (ls_cons (es_loc ok rfl) (ls_cons (es_loc ok rfl) ls_nil)))))))
          (bs_cons (ss_ssub (es_loc ok rfl) (es_call ok (by kernel_rfl) (by kernel_rfl) (at_kpk_index B) ((fs_kpk_index B).more (by decide)) (ls_cons (es_loc ok rfl) (ls_cons (es_loc ok rfl) (ls_cons (es_loc ok rfl) (ls_cons (es_loc ok rfl) (ls_cons (es_loc ok rfl) ls_nil)))))) (es_loc ok rfl))
          (bs_one (ss_if (ts_cmp (cm_eq _) (es_loc ok rfl) (es_glob ok (by kernel_rfl) (mg_UNKNOWN B) (vr_UNKNOWN B) (by kernel_rfl)))
           (bs_one (ss_expr (es_append (es_loc ok rfl) (es_tup (ls_cons (es_loc ok rfl) (ls_cons (es_loc ok rfl) (ls_cons (es_loc ok rfl) (ls_cons (es_loc ok rfl) ls_nil))))) rfl) (by intro _; rfl)))
           bs_nil)))))))))))
       bs_nil)))
     (bs_one (ss_ret (es_loc ok rfl)))))

theorem at_settle_round (B : Own G) : FnAt G "settle_round" 130 := ⟨B.glob (by kernel_rfl), _, _, B.at rfl, rfl⟩
theorem fs_settle_round (B : Own G) : FS G 5 f_settle_round 130 := by
  refine FS.of (G := G) (f := Fx.mk "settle_round" ?cs 130 (.ref 129) ["geo", "base", "steps", "unknown", "left", "side", "strong", "pawn", "weak", "result"]) (n := 4) (fo := ?fo) (fname := ?p0) (params := ?p1) (body := ?p2) (doc := ?p3) (pm := ?p4) (ct := ?p5) (an := ?p6) ?ok (B.at ?hl) ?hd ?hcd ?hu ?hlen ?hcell ?hbind ?hb ?hco ?hgen
  case hl => exact rfl
  case hd => exact rfl
  case ok => exact ⟨rfl, by decide +kernel, by decide +kernel, by decide +kernel⟩
  case hcd => exact ⟨_, _, _, _, rfl, B.at (by rfl), rfl, rfl⟩
  case hu => rfl
  case hlen => decide
  case hcell => decide +kernel
  case hbind => intro us h; rcases us with _ | ⟨_, _ | ⟨_, _ | ⟨_, _ | ⟨_, _ | ⟨_, us⟩⟩⟩⟩⟩ <;> first | rfl | (exfalso; simp only [List.length_cons, List.length_nil] at h; omega)
  case hco => rfl
  case hgen => rfl
  case hb =>
    intro ok
    unfold b_settle_round
    exact (bs_cons (ss_set ok rfl (es_list ls_nil))
     (bs_cons (ss_for (tgt_tup ok (he_cons rfl (he_cons rfl (he_cons rfl (he_cons rfl he_nil)))) rfl) (es_loc ok rfl)
      (bs_cons (ss_set ok rfl (es_call ok (by kernel_rfl) (by kernel_rfl) (at_classify B) ((fs_classify B).more (by decide)) (ls_cons (es_loc ok rfl) (ls_cons (es_loc ok rfl) (ls_cons (es_loc ok rfl) (ls_cons (es_loc ok rfl) (ls_cons (es_loc ok rfl) (ls_cons (es_loc ok rfl) (ls_cons (es_loc ok rfl) ls_nil)))))))))
      (bs_one (ss_if (ts_cmp (cm_eq _) (es_loc ok rfl) (es_glob ok (by kernel_rfl) (mg_UNKNOWN B) (vr_UNKNOWN B) (by kernel_rfl)))
       (bs_one (ss_expr (es_append (es_loc ok rfl) (es_tup (ls_cons (es_loc ok rfl) (ls_cons (es_loc ok rfl) (ls_cons (es_loc ok rfl) (ls_cons (es_loc ok rfl) ls_nil))))) rfl) (by intro _; rfl)))
       (bs_one (ss_ssub (es_loc ok rfl) (es_call ok (by kernel_rfl) (by kernel_rfl) (at_kpk_index B) ((fs_kpk_index B).more (by decide)) (ls_cons (es_loc ok rfl) (ls_cons (es_loc ok rfl) (ls_cons (es_loc ok rfl) (ls_cons (es_loc ok rfl) (ls_cons (es_loc ok rfl) ls_nil)))))) (es_loc ok rfl)))))))
     (bs_one (ss_ret (es_loc ok rfl)))))

theorem at_build_kpk (B : Own G) : FnAt G "build_kpk" 137 := ⟨B.glob (by kernel_rfl), _, _, B.at rfl, rfl⟩
theorem fs_build_kpk (B : Own G) : FS G 6 f_build_kpk 137 := by
  refine FS.of (G := G) (f := Fx.mk "build_kpk" ?cs 137 (.ref 136) ["geo", "base", "steps", "square", "unknown", "left", "side", "strong", "pawn", "weak"]) (n := 5) (fo := ?fo) (fname := ?p0) (params := ?p1) (body := ?p2) (doc := ?p3) (pm := ?p4) (ct := ?p5) (an := ?p6) ?ok (B.at ?hl) ?hd ?hcd ?hu ?hlen ?hcell ?hbind ?hb ?hco ?hgen
  case hl => exact rfl
  case hd => exact rfl
  case ok => exact ⟨rfl, by decide +kernel, by decide +kernel, by decide +kernel⟩
  case hcd => exact ⟨_, _, _, _, rfl, B.at (by rfl), rfl, rfl⟩
  case hu => rfl
  case hlen => decide
  case hcell => decide +kernel
  case hbind => intro us h; rcases us with _ | ⟨_, _ | ⟨_, us⟩⟩ <;> first | rfl | (exfalso; simp only [List.length_cons, List.length_nil] at h; omega)
  case hco => rfl
  case hgen => rfl
  case hb =>
    intro ok
    unfold b_build_kpk
    exact (bs_cons (ss_set ok rfl (es_rep (es_glob ok (by kernel_rfl) (mg_INVALID B) (vr_INVALID B) (by kernel_rfl)) (es_call ok (by kernel_rfl) (by kernel_rfl) (at_kpk_size B) ((fs_kpk_size B).more (by decide)) (ls_cons (es_loc ok rfl) ls_nil))))
     (bs_cons (ss_set ok rfl (es_list ls_nil))
     (bs_cons (ss_for (tgt_var ok rfl) (es_range1 ok (by kernel_rfl) (es_attr rfl (es_loc ok rfl)))
      (bs_one (ss_expr (es_append (es_loc ok rfl) (es_call ok (by kernel_rfl) (by kernel_rfl) (at_squares_of B) ((fs_squares_of B).more (by decide)) (ls_cons (es_sub (es_attr rfl (es_loc ok rfl)) (es_loc ok rfl)) ls_nil)) rfl) (by intro _; rfl))))
     (bs_cons (ss_set ok rfl (es_call ok (by kernel_rfl) (by kernel_rfl) (at_settle_first B) ((fs_settle_first B).more (by decide)) (ls_cons (es_loc ok rfl) (ls_cons (es_loc ok rfl) ls_nil))))
     (bs_cons (ss_while (TS.of es_bool)
      (bs_cons (ss_set ok rfl (es_call ok (by kernel_rfl) (by kernel_rfl) (at_settle_round B) ((fs_settle_round B).more (by decide)) (ls_cons (es_loc ok rfl) (ls_cons (es_loc ok rfl) (ls_cons (es_loc ok rfl) (ls_cons (es_loc ok rfl) ls_nil))))))
      (bs_cons (ss_if (ts_cmp (cm_eq _) (es_len ok (by kernel_rfl) (es_loc ok rfl)) (es_len ok (by kernel_rfl) (es_loc ok rfl)))
       (bs_one ss_break)
       bs_nil)
      (bs_one (ss_set ok rfl (es_loc ok rfl))))))
     (bs_cons (ss_for (tgt_tup ok (he_cons rfl (he_cons rfl (he_cons rfl (he_cons rfl he_nil)))) rfl) (es_loc ok rfl)
      (bs_one (ss_ssub (es_loc ok rfl) (es_call ok (by kernel_rfl) (by kernel_rfl) (at_kpk_index B) ((fs_kpk_index B).more (by decide)) (ls_cons (es_loc ok rfl) (ls_cons (es_loc ok rfl) (ls_cons (es_loc ok rfl) (ls_cons (es_loc ok rfl) (ls_cons (es_loc ok rfl) ls_nil)))))) (es_glob ok (by kernel_rfl) (mg_DRAW B) (vr_DRAW B) (by kernel_rfl)))))
     (bs_one (ss_ret (es_loc ok rfl)))))))))

theorem at_mirrored (B : Own G) : FnAt G "mirrored" 144 := ⟨B.glob (by kernel_rfl), _, _, B.at rfl, rfl⟩
theorem fs_mirrored (B : Own G) : FS G 1 f_mirrored 144 := by
  refine FS.of (G := G) (f := Fx.mk "mirrored" ?cs 144 (.ref 143) ["geo", "square", "file"]) (n := 0) (fo := ?fo) (fname := ?p0) (params := ?p1) (body := ?p2) (doc := ?p3) (pm := ?p4) (ct := ?p5) (an := ?p6) ?ok (B.at ?hl) ?hd ?hcd ?hu ?hlen ?hcell ?hbind ?hb ?hco ?hgen
  case hl => exact rfl
  case hd => exact rfl
  case ok => exact ⟨rfl, by decide +kernel, by decide +kernel, by decide +kernel⟩
  case hcd => exact ⟨_, _, _, _, rfl, B.at (by rfl), rfl, rfl⟩
  case hu => rfl
  case hlen => decide
  case hcell => decide +kernel
  case hbind => intro us h; rcases us with _ | ⟨_, _ | ⟨_, _ | ⟨_, us⟩⟩⟩ <;> first | rfl | (exfalso; simp only [List.length_cons, List.length_nil] at h; omega)
  case hco => rfl
  case hgen => rfl
  case hb =>
    intro ok
    unfold b_mirrored
    exact (bs_cons (ss_set ok rfl (es_bin (op_mod _) (es_loc ok rfl) (es_attr rfl (es_loc ok rfl))))
     (bs_one (ss_ret (es_bin (op_sub _) (es_bin (op_sub _) (es_bin (op_add _) (es_bin (op_sub _) (es_loc ok rfl) (es_loc ok rfl)) (es_attr rfl (es_loc ok rfl))) (es_int rfl)) (es_loc ok rfl)))))

theorem at_flipped (B : Own G) : FnAt G "flipped" 151 := ⟨B.glob (by kernel_rfl), _, _, B.at rfl, rfl⟩
theorem fs_flipped (B : Own G) : FS G 1 f_flipped 151 := by
  refine FS.of (G := G) (f := Fx.mk "flipped" ?cs 151 (.ref 150) ["geo", "square", "rank"]) (n := 0) (fo := ?fo) (fname := ?p0) (params := ?p1) (body := ?p2) (doc := ?p3) (pm := ?p4) (ct := ?p5) (an := ?p6) ?ok (B.at ?hl) ?hd ?hcd ?hu ?hlen ?hcell ?hbind ?hb ?hco ?hgen
  case hl => exact rfl
  case hd => exact rfl
  case ok => exact ⟨rfl, by decide +kernel, by decide +kernel, by decide +kernel⟩
  case hcd => exact ⟨_, _, _, _, rfl, B.at (by rfl), rfl, rfl⟩
  case hu => rfl
  case hlen => decide
  case hcell => decide +kernel
  case hbind => intro us h; rcases us with _ | ⟨_, _ | ⟨_, _ | ⟨_, us⟩⟩⟩ <;> first | rfl | (exfalso; simp only [List.length_cons, List.length_nil] at h; omega)
  case hco => rfl
  case hgen => rfl
  case hb =>
    intro ok
    unfold b_flipped
    exact (bs_cons (ss_set ok rfl (es_bin (op_div _) (es_loc ok rfl) (es_attr rfl (es_loc ok rfl))))
     (bs_one (ss_ret (es_bin (op_add _) (es_bin (op_mul _) (es_bin (op_sub _) (es_bin (op_sub _) (es_attr rfl (es_loc ok rfl)) (es_int rfl)) (es_loc ok rfl)) (es_attr rfl (es_loc ok rfl))) (es_bin (op_mod _) (es_loc ok rfl) (es_attr rfl (es_loc ok rfl)))))))

theorem at_probe_kpk (B : Own G) : FnAt G "probe_kpk" 158 := ⟨B.glob (by kernel_rfl), _, _, B.at rfl, rfl⟩
theorem fs_probe_kpk (B : Own G) : FS G 3 f_probe_kpk 158 := by
  refine FS.of (G := G) (f := Fx.mk "probe_kpk" ?cs 158 (.ref 157) ["geo", "base", "side", "strong", "pawn", "weak", "square"]) (n := 2) (fo := ?fo) (fname := ?p0) (params := ?p1) (body := ?p2) (doc := ?p3) (pm := ?p4) (ct := ?p5) (an := ?p6) ?ok (B.at ?hl) ?hd ?hcd ?hu ?hlen ?hcell ?hbind ?hb ?hco ?hgen
  case hl => exact rfl
  case hd => exact rfl
  case ok => exact ⟨rfl, by decide +kernel, by decide +kernel, by decide +kernel⟩
  case hcd => exact ⟨_, _, _, _, rfl, B.at (by rfl), rfl, rfl⟩
  case hu => rfl
  case hlen => decide
  case hcell => decide +kernel
  case hbind => intro us h; rcases us with _ | ⟨_, _ | ⟨_, _ | ⟨_, _ | ⟨_, _ | ⟨_, _ | ⟨_, _ | ⟨_, us⟩⟩⟩⟩⟩⟩⟩ <;> first | rfl | (exfalso; simp only [List.length_cons, List.length_nil] at h; omega)
  case hco => rfl
  case hgen => rfl
  case hb =>
    intro ok
    unfold b_probe_kpk
    exact (bs_cons (ss_for (tgt_var ok rfl) (es_tup (ls_cons (es_loc ok rfl) (ls_cons (es_loc ok rfl) ls_nil)))
      (bs_one (ss_if (ts_not (ts_cmp2 (cm_le _) (cm_lt _) (es_int rfl) (es_loc ok rfl) (es_attr rfl (es_loc ok rfl))))
       (bs_one ss_raise)
       bs_nil)))
     (bs_cons (ss_if (ts_not (ts_cmp2 (cm_le _) (cm_lt _) (es_attr rfl (es_loc ok rfl)) (es_loc ok rfl) (es_bin (op_sub _) (es_attr rfl (es_loc ok rfl)) (es_attr rfl (es_loc ok rfl)))))
      (bs_one ss_raise)
      bs_nil)
     (bs_cons (ss_if (ts_cmp (cm_ge _) (es_bin (op_mod _) (es_loc ok rfl) (es_attr rfl (es_loc ok rfl))) (es_call ok (by kernel_rfl) (by kernel_rfl) (at_pawn_files B) ((fs_pawn_files B).more (by decide)) (ls_cons (es_loc ok rfl) ls_nil)))
      (bs_cons (ss_set ok rfl (es_call ok (by kernel_rfl) (by kernel_rfl) (at_mirrored B) ((fs_mirrored B).more (by decide)) (ls_cons (es_loc ok rfl) (ls_cons (es_loc ok rfl) ls_nil))))
      (bs_cons (ss_set ok rfl (es_call ok (by kernel_rfl) (by kernel_rfl) (at_mirrored B) ((fs_mirrored B).more (by decide)) (ls_cons (es_loc ok rfl) (ls_cons (es_loc ok rfl) ls_nil))))
      (bs_one (ss_set ok rfl (es_call ok (by kernel_rfl) (by kernel_rfl) (at_mirrored B) ((fs_mirrored B).more (by decide)) (ls_cons (es_loc ok rfl) (ls_cons (es_loc ok rfl) ls_nil)))))))
      bs_nil)
     (bs_one (ss_ret (es_sub (es_loc ok rfl) (es_call ok (by kernel_rfl) (by kernel_rfl) (at_kpk_index B) ((fs_kpk_index B).more (by decide)) (ls_cons (es_loc ok rfl) (ls_cons (es_loc ok rfl) (ls_cons (es_loc ok rfl) (ls_cons (es_loc ok rfl) (ls_cons (es_loc ok rfl) ls_nil))))))))))))

theorem at_probe_for (B : Own G) : FnAt G "probe_for" 165 := ⟨B.glob (by kernel_rfl), _, _, B.at rfl, rfl⟩
theorem fs_probe_for (B : Own G) : FS G 4 f_probe_for 165 := by
  refine FS.of (G := G) (f := Fx.mk "probe_for" ?cs 165 (.ref 164) ["geo", "base", "owner", "side", "strong", "pawn", "weak"]) (n := 3) (fo := ?fo) (fname := ?p0) (params := ?p1) (body := ?p2) (doc := ?p3) (pm := ?p4) (ct := ?p5) (an := ?p6) ?ok (B.at ?hl) ?hd ?hcd ?hu ?hlen ?hcell ?hbind ?hb ?hco ?hgen
  case hl => exact rfl
  case hd => exact rfl
  case ok => exact ⟨rfl, by decide +kernel, by decide +kernel, by decide +kernel⟩
  case hcd => exact ⟨_, _, _, _, rfl, B.at (by rfl), rfl, rfl⟩
  case hu => rfl
  case hlen => decide
  case hcell => decide +kernel
  case hbind => intro us h; rcases us with _ | ⟨_, _ | ⟨_, _ | ⟨_, _ | ⟨_, _ | ⟨_, _ | ⟨_, _ | ⟨_, _ | ⟨_, us⟩⟩⟩⟩⟩⟩⟩⟩ <;> first | rfl | (exfalso; simp only [List.length_cons, List.length_nil] at h; omega)
  case hco => rfl
  case hgen => rfl
  case hb =>
    intro ok
    unfold b_probe_for
    exact (bs_cons (ss_if (ts_cmp (cm_eq _) (es_loc ok rfl) (es_glob ok (by kernel_rfl) (mg_WHITE B) (vr_WHITE B) (by kernel_rfl)))
      (bs_one (ss_ret (es_call ok (by kernel_rfl) (by kernel_rfl) (at_probe_kpk B) ((fs_probe_kpk B).more (by decide)) (ls_cons (es_loc ok rfl) (ls_cons (es_loc ok rfl) (ls_cons (es_loc ok rfl) (ls_cons (es_loc ok rfl) (ls_cons (es_loc ok rfl) (ls_cons (es_loc ok rfl) ls_nil)))))))))
      bs_nil)
     (bs_one (ss_ret (es_call ok (by kernel_rfl) (by kernel_rfl) (at_probe_kpk B) ((fs_probe_kpk B).more (by decide)) (ls_cons (es_loc ok rfl) (ls_cons (es_loc ok rfl) (ls_cons (es_bin (op_sub _) (es_int rfl) (es_loc ok rfl)) (ls_cons (es_call ok (by kernel_rfl) (by kernel_rfl) (at_flipped B) ((fs_flipped B).more (by decide)) (ls_cons (es_loc ok rfl) (ls_cons (es_loc ok rfl) ls_nil))) (ls_cons (es_call ok (by kernel_rfl) (by kernel_rfl) (at_flipped B) ((fs_flipped B).more (by decide)) (ls_cons (es_loc ok rfl) (ls_cons (es_loc ok rfl) ls_nil))) (ls_cons (es_call ok (by kernel_rfl) (by kernel_rfl) (at_flipped B) ((fs_flipped B).more (by decide)) (ls_cons (es_loc ok rfl) (ls_cons (es_loc ok rfl) ls_nil))) ls_nil))))))))))

theorem fs_Geometry_init (B : Own G) : FS G 1 f_Geometry_init 181 := by
  refine FS.of (G := G) (f := Fx.mk "Geometry.__init__" ?cs 181 (.ref 180) ["self", "files", "ranks", "has_double", "has_castling"]) (n := 0) (fo := ?fo) (fname := ?p0) (params := ?p1) (body := ?p2) (doc := ?p3) (pm := ?p4) (ct := ?p5) (an := ?p6) ?ok (B.at ?hl) ?hd ?hcd ?hu ?hlen ?hcell ?hbind ?hb ?hco ?hgen
  case hl => exact rfl
  case hd => exact rfl
  case ok => exact ⟨rfl, by decide +kernel, by decide +kernel, by decide +kernel⟩
  case hcd => exact ⟨_, _, _, _, rfl, B.at (by rfl), rfl, rfl⟩
  case hu => rfl
  case hlen => decide
  case hcell => decide +kernel
  case hbind => intro us h; rcases us with _ | ⟨_, _ | ⟨_, _ | ⟨_, _ | ⟨_, _ | ⟨_, _ | ⟨_, us⟩⟩⟩⟩⟩⟩ <;> first | rfl | (exfalso; simp only [List.length_cons, List.length_nil] at h; omega)
  case hco => rfl
  case hgen => rfl
  case hb =>
    intro ok
    unfold b_Geometry_init
    exact (bs_cons (ss_sattr rfl (es_loc ok rfl) (es_loc ok rfl))
     (bs_cons (ss_sattr rfl (es_loc ok rfl) (es_loc ok rfl))
     (bs_cons (ss_sattr rfl (es_loc ok rfl) (es_bin (op_mul _) (es_loc ok rfl) (es_loc ok rfl)))
     (bs_cons (ss_sattr rfl (es_loc ok rfl) (es_bin (op_sub _) (es_bin (op_shl _) (es_int rfl) (es_bin (op_mul _) (es_loc ok rfl) (es_loc ok rfl))) (es_int rfl)))
     (bs_cons (ss_sattr rfl (es_loc ok rfl) (es_boolv (bv_and (es_loc ok rfl) (bv_one (es_cmp (cm_ge _) (es_loc ok rfl) (es_int rfl))))))
     (bs_cons (ss_sattr rfl (es_loc ok rfl) (es_loc ok rfl))
     (bs_cons (ss_sattr rfl (es_loc ok rfl) (es_list ls_nil))
     (bs_cons (ss_sattr rfl (es_loc ok rfl) (es_list ls_nil))
     (bs_cons (ss_sattr rfl (es_loc ok rfl) (es_list ls_nil))
     (bs_cons (ss_sattr rfl (es_loc ok rfl) (es_list ls_nil))
     (bs_cons (ss_sattr rfl (es_loc ok rfl) (es_list ls_nil))
     (bs_cons (ss_sattr rfl (es_loc ok rfl) (es_list (ls_cons (es_list ls_nil) (ls_cons (es_list ls_nil) ls_nil))))
     (bs_cons (ss_sattr rfl (es_loc ok rfl) (es_list ls_nil))
     (bs_one (ss_sattr rfl (es_loc ok rfl) (es_list ls_nil))))))))))))))))

theorem fs_Geometry_init' (B : Own G) : FS G 1 f_Geometry_init G.fI := by rw [B.fI]; exact fs_Geometry_init B
theorem at_is_growing (B : Own G) : FnAt G "is_growing" 195 := ⟨B.glob (by kernel_rfl), _, _, B.at rfl, rfl⟩
theorem fs_is_growing (B : Own G) : FS G 1 f_is_growing 195 := by
  refine FS.of (G := G) (f := Fx.mk "is_growing" ?cs 195 (.ref 194) ["d"]) (n := 0) (fo := ?fo) (fname := ?p0) (params := ?p1) (body := ?p2) (doc := ?p3) (pm := ?p4) (ct := ?p5) (an := ?p6) ?ok (B.at ?hl) ?hd ?hcd ?hu ?hlen ?hcell ?hbind ?hb ?hco ?hgen
  case hl => exact rfl
  case hd => exact rfl
  case ok => exact ⟨rfl, by decide +kernel, by decide +kernel, by decide +kernel⟩
  case hcd => exact ⟨_, _, _, _, rfl, B.at (by rfl), rfl, rfl⟩
  case hu => rfl
  case hlen => decide
  case hcell => decide +kernel
  case hbind => intro us h; rcases us with _ | ⟨_, _ | ⟨_, us⟩⟩ <;> first | rfl | (exfalso; simp only [List.length_cons, List.length_nil] at h; omega)
  case hco => rfl
  case hgen => rfl
  case hb =>
    intro ok
    unfold b_is_growing
    exact (bs_one (ss_ret (es_boolv (bv_or (es_cmp (cm_gt _) (es_sub (es_glob ok (by kernel_rfl) (mg_STEP_RANKS B) (vr_STEP_RANKS B) (by kernel_rfl)) (es_loc ok rfl)) (es_int rfl)) (bv_one (es_cmp (cm_eq _) (es_loc ok rfl) (es_int rfl)))))))

theorem at_add_masks (B : Own G) : FnAt G "add_masks" 202 := ⟨B.glob (by kernel_rfl), _, _, B.at rfl, rfl⟩
theorem fs_add_masks (B : Own G) : FS G 1 f_add_masks 202 := by
  refine FS.of (G := G) (f := Fx.mk "add_masks" ?cs 202 (.ref 201) ["geo", "row", "column", "r", "f"]) (n := 0) (fo := ?fo) (fname := ?p0) (params := ?p1) (body := ?p2) (doc := ?p3) (pm := ?p4) (ct := ?p5) (an := ?p6) ?ok (B.at ?hl) ?hd ?hcd ?hu ?hlen ?hcell ?hbind ?hb ?hco ?hgen
  case hl => exact rfl
  case hd => exact rfl
  case ok => exact ⟨rfl, by decide +kernel, by decide +kernel, by decide +kernel⟩
  case hcd => exact ⟨_, _, _, _, rfl, B.at (by rfl), rfl, rfl⟩
  case hu => rfl
  case hlen => decide
  case hcell => decide +kernel
  case hbind => intro us h; rcases us with _ | ⟨_, _ | ⟨_, us⟩⟩ <;> first | rfl | (exfalso; simp only [List.length_cons, List.length_nil] at h; omega)
  case hco => rfl
  case hgen => rfl
  case hb =>
    intro ok
    unfold b_add_masks
    exact (bs_cons (ss_set ok rfl (es_bin (op_sub _) (es_bin (op_shl _) (es_int rfl) (es_attr rfl (es_loc ok rfl))) (es_int rfl)))
     (bs_cons (ss_set ok rfl (es_int rfl))
     (bs_cons (ss_for (tgt_var ok rfl) (es_range1 ok (by kernel_rfl) (es_attr rfl (es_loc ok rfl)))
      (bs_cons (ss_expr (es_append (es_attr rfl (es_loc ok rfl)) (es_bin (op_shl _) (es_loc ok rfl) (es_bin (op_mul _) (es_loc ok rfl) (es_attr rfl (es_loc ok rfl)))) rfl) (by intro _; rfl))
      (bs_one (ss_aug ok rfl (iop_or _) (es_bin (op_shl _) (es_int rfl) (es_bin (op_mul _) (es_loc ok rfl) (es_attr rfl (es_loc ok rfl))))))))
     (bs_one (ss_for (tgt_var ok rfl) (es_range1 ok (by kernel_rfl) (es_attr rfl (es_loc ok rfl)))
      (bs_one (ss_expr (es_append (es_attr rfl (es_loc ok rfl)) (es_bin (op_shl _) (es_loc ok rfl) (es_loc ok rfl)) rfl) (by intro _; rfl))))))))

theorem at_inner_squares (B : Own G) : FnAt G "inner_squares" 209 := ⟨B.glob (by kernel_rfl), _, _, B.at rfl, rfl⟩
theorem fs_inner_squares (B : Own G) : FS G 1 f_inner_squares 209 := by
  refine FS.of (G := G) (f := Fx.mk "inner_squares" ?cs 209 (.ref 208) ["geo", "d", "edge"]) (n := 0) (fo := ?fo) (fname := ?p0) (params := ?p1) (body := ?p2) (doc := ?p3) (pm := ?p4) (ct := ?p5) (an := ?p6) ?ok (B.at ?hl) ?hd ?hcd ?hu ?hlen ?hcell ?hbind ?hb ?hco ?hgen
  case hl => exact rfl
  case hd => exact rfl
  case ok => exact ⟨rfl, by decide +kernel, by decide +kernel, by decide +kernel⟩
  case hcd => exact ⟨_, _, _, _, rfl, B.at (by rfl), rfl, rfl⟩
  case hu => rfl
  case hlen => decide
  case hcell => decide +kernel
  case hbind => intro us h; rcases us with _ | ⟨_, _ | ⟨_, _ | ⟨_, us⟩⟩⟩ <;> first | rfl | (exfalso; simp only [List.length_cons, List.length_nil] at h; omega)
  case hco => rfl
  case hgen => rfl
  case hb =>
    intro ok
    unfold b_inner_squares
    exact (bs_cons (ss_set ok rfl (es_int rfl))
     (bs_cons (ss_if (ts_cmp (cm_gt _) (es_sub (es_glob ok (by kernel_rfl) (mg_STEP_FILES B) (vr_STEP_FILES B) (by kernel_rfl)) (es_loc ok rfl)) (es_int rfl))
      (bs_one (ss_aug ok rfl (iop_or _) (es_sub (es_attr rfl (es_loc ok rfl)) (es_bin (op_sub _) (es_attr rfl (es_loc ok rfl)) (es_int rfl)))))
      bs_nil)
     (bs_cons (ss_if (ts_cmp (cm_lt _) (es_sub (es_glob ok (by kernel_rfl) (mg_STEP_FILES B) (vr_STEP_FILES B) (by kernel_rfl)) (es_loc ok rfl)) (es_int rfl))
      (bs_one (ss_aug ok rfl (iop_or _) (es_sub (es_attr rfl (es_loc ok rfl)) (es_int rfl))))
      bs_nil)
     (bs_cons (ss_if (ts_cmp (cm_gt _) (es_sub (es_glob ok (by kernel_rfl) (mg_STEP_RANKS B) (vr_STEP_RANKS B) (by kernel_rfl)) (es_loc ok rfl)) (es_int rfl))
      (bs_one (ss_aug ok rfl (iop_or _) (es_sub (es_attr rfl (es_loc ok rfl)) (es_bin (op_sub _) (es_attr rfl (es_loc ok rfl)) (es_int rfl)))))
      bs_nil)
     (bs_cons (ss_if (ts_cmp (cm_lt _) (es_sub (es_glob ok (by kernel_rfl) (mg_STEP_RANKS B) (vr_STEP_RANKS B) (by kernel_rfl)) (es_loc ok rfl)) (es_int rfl))
      (bs_one (ss_aug ok rfl (iop_or _) (es_sub (es_attr rfl (es_loc ok rfl)) (es_int rfl))))
      bs_nil)
     (bs_one (ss_ret (es_bin (op_and _) (es_attr rfl (es_loc ok rfl)) (es_inv (es_loc ok rfl))))))))))

theorem at_add_rays (B : Own G) : FnAt G "add_rays" 216 := ⟨B.glob (by kernel_rfl), _, _, B.at rfl, rfl⟩
theorem fs_add_rays (B : Own G) : FS G 2 f_add_rays 216 := by
  refine FS.of (G := G) (f := Fx.mk "add_rays" ?cs 216 (.ref 215) ["geo", "d", "inner", "delta", "ray", "order", "square", "goal"]) (n := 1) (fo := ?fo) (fname := ?p0) (params := ?p1) (body := ?p2) (doc := ?p3) (pm := ?p4) (ct := ?p5) (an := ?p6) ?ok (B.at ?hl) ?hd ?hcd ?hu ?hlen ?hcell ?hbind ?hb ?hco ?hgen
  case hl => exact rfl
  case hd => exact rfl
  case ok => exact ⟨rfl, by decide +kernel, by decide +kernel, by decide +kernel⟩
  case hcd => exact ⟨_, _, _, _, rfl, B.at (by rfl), rfl, rfl⟩
  case hu => rfl
  case hlen => decide
  case hcell => decide +kernel
  case hbind => intro us h; rcases us with _ | ⟨_, _ | ⟨_, us⟩⟩ <;> first | rfl | (exfalso; simp only [List.length_cons, List.length_nil] at h; omega)
  case hco => rfl
  case hgen => rfl
  case hb =>
    intro ok
    unfold b_add_rays
    exact (bs_cons (ss_sattr rfl (es_loc ok rfl) (es_rep (es_int rfl) (es_attr rfl (es_loc ok rfl))))
     (bs_one (ss_for (tgt_var ok rfl) (es_range1 ok (by kernel_rfl) (es_int rfl))
      (bs_cons (ss_set ok rfl (es_call ok (by kernel_rfl) (by kernel_rfl) (at_inner_squares B) ((fs_inner_squares B).more (by decide)) (ls_cons (es_loc ok rfl) (ls_cons (es_loc ok rfl) ls_nil))))
      (bs_cons (ss_set ok rfl (es_bin (op_add _) (es_bin (op_mul _) (es_sub (es_glob ok (by kernel_rfl) (mg_STEP_RANKS B) (vr_STEP_RANKS B) (by kernel_rfl)) (es_loc ok rfl)) (es_attr rfl (es_loc ok rfl))) (es_sub (es_glob ok (by kernel_rfl) (mg_STEP_FILES B) (vr_STEP_FILES B) (by kernel_rfl)) (es_loc ok rfl))))
      (bs_cons (ss_set ok rfl (es_rep (es_int rfl) (es_attr rfl (es_loc ok rfl))))
      (bs_cons (ss_set ok rfl (es_range1 ok (by kernel_rfl) (es_attr rfl (es_loc ok rfl))))
      (bs_cons (ss_if (TS.of (es_call ok (by kernel_rfl) (by kernel_rfl) (at_is_growing B) ((fs_is_growing B).more (by decide)) (ls_cons (es_loc ok rfl) ls_nil)))
       (bs_one (ss_set ok rfl (es_range3 ok (by kernel_rfl) (es_bin (op_sub _) (es_attr rfl (es_loc ok rfl)) (es_int rfl)) (es_neg (es_int rfl)) (es_neg (es_int rfl)))))
       bs_nil)
      (bs_cons (ss_for (tgt_var ok rfl) (es_loc ok rfl)
       (bs_one (ss_if (TS.of (es_bin (op_and _) (es_bin (op_shr _) (es_loc ok rfl) (es_loc ok rfl)) (es_int rfl)))
        (bs_cons (ss_set ok rfl (es_bin (op_add _) (es_loc ok rfl) (es_loc ok rfl)))
        (bs_cons (ss_ssub (es_loc ok rfl) (es_loc ok rfl) (es_bin (op_or _) (es_sub (es_loc ok rfl) (es_loc ok rfl)) (es_bin (op_shl _) (es_int rfl) (es_loc ok rfl))))
        (bs_one (ss_saugsub (iop_or _) (es_attr rfl (es_loc ok rfl)) (es_loc ok rfl) (es_bin (op_shl _) (es_int rfl) (es_loc ok rfl))))))
        bs_nil)))
      (bs_one (ss_expr (es_append (es_attr rfl (es_loc ok rfl)) (es_loc ok rfl) rfl) (by intro _; rfl))))))))))))

theorem at_add_pawns (B : Own G) : FnAt G "add_pawns" 223 := ⟨B.glob (by kernel_rfl), _, _, B.at rfl, rfl⟩
theorem fs_add_pawns (B : Own G) : FS G 1 f_add_pawns 223 := by
  refine FS.of (G := G) (f := Fx.mk "add_pawns" ?cs 223 (.ref 222) ["geo", "square"]) (n := 0) (fo := ?fo) (fname := ?p0) (params := ?p1) (body := ?p2) (doc := ?p3) (pm := ?p4) (ct := ?p5) (an := ?p6) ?ok (B.at ?hl) ?hd ?hcd ?hu ?hlen ?hcell ?hbind ?hb ?hco ?hgen
  case hl => exact rfl
  case hd => exact rfl
  case ok => exact ⟨rfl, by decide +kernel, by decide +kernel, by decide +kernel⟩
  case hcd => exact ⟨_, _, _, _, rfl, B.at (by rfl), rfl, rfl⟩
  case hu => rfl
  case hlen => decide
  case hcell => decide +kernel
  case hbind => intro us h; rcases us with _ | ⟨_, _ | ⟨_, us⟩⟩ <;> first | rfl | (exfalso; simp only [List.length_cons, List.length_nil] at h; omega)
  case hco => rfl
  case hgen => rfl
  case hb =>
    intro ok
    unfold b_add_pawns
    exact (bs_one (ss_for (tgt_var ok rfl) (es_range1 ok (by kernel_rfl) (es_attr rfl (es_loc ok rfl)))
      (bs_cons (ss_expr (es_append (es_sub (es_attr rfl (es_loc ok rfl)) (es_int rfl)) (es_bin (op_and _) (es_sub (es_attr rfl (es_loc ok rfl)) (es_loc ok rfl)) (es_bin (op_or _) (es_sub (es_sub (es_attr rfl (es_loc ok rfl)) (es_int rfl)) (es_loc ok rfl)) (es_sub (es_sub (es_attr rfl (es_loc ok rfl)) (es_int rfl)) (es_loc ok rfl)))) rfl) (by intro _; rfl))
      (bs_one (ss_expr (es_append (es_sub (es_attr rfl (es_loc ok rfl)) (es_int rfl)) (es_bin (op_and _) (es_sub (es_attr rfl (es_loc ok rfl)) (es_loc ok rfl)) (es_bin (op_or _) (es_sub (es_sub (es_attr rfl (es_loc ok rfl)) (es_int rfl)) (es_loc ok rfl)) (es_sub (es_sub (es_attr rfl (es_loc ok rfl)) (es_int rfl)) (es_loc ok rfl)))) rfl) (by intro _; rfl))))))

theorem at_add_knights (B : Own G) : FnAt G "add_knights" 230 := ⟨B.glob (by kernel_rfl), _, _, B.at rfl, rfl⟩
theorem fs_add_knights (B : Own G) : FS G 1 f_add_knights 230 := by
  refine FS.of (G := G) (f := Fx.mk "add_knights" ?cs 230 (.ref 229) ["geo", "files", "not_first", "not_last", "not_first_two", "not_last_two", "square", "b", "near", "far", "found"]) (n := 0) (fo := ?fo) (fname := ?p0) (params := ?p1) (body := ?p2) (doc := ?p3) (pm := ?p4) (ct := ?p5) (an := ?p6) ?ok (B.at ?hl) ?hd ?hcd ?hu ?hlen ?hcell ?hbind ?hb ?hco ?hgen
  case hl => exact rfl
  case hd => exact rfl
  case ok => exact ⟨rfl, by decide +kernel, by decide +kernel, by decide +kernel⟩
  case hcd => exact ⟨_, _, _, _, rfl, B.at (by rfl), rfl, rfl⟩
  case hu => rfl
  case hlen => decide
  case hcell => decide +kernel
  case hbind => intro us h; rcases us with _ | ⟨_, _ | ⟨_, us⟩⟩ <;> first | rfl | (exfalso; simp only [List.length_cons, List.length_nil] at h; omega)
  case hco => rfl
  case hgen => rfl
  case hb =>
    intro ok
    unfold b_add_knights
    exact (bs_cons (ss_set ok rfl (es_attr rfl (es_loc ok rfl)))
     (bs_cons (ss_set ok rfl (es_bin (op_and _) (es_attr rfl (es_loc ok rfl)) (es_inv (es_sub (es_attr rfl (es_loc ok rfl)) (es_int rfl)))))
     (bs_cons (ss_set ok rfl (es_bin (op_and _) (es_attr rfl (es_loc ok rfl)) (es_inv (es_sub (es_attr rfl (es_loc ok rfl)) (es_bin (op_sub _) (es_loc ok rfl) (es_int rfl))))))
     (bs_cons (ss_set ok rfl (es_bin (op_and _) (es_loc ok rfl) (es_inv (es_sub (es_attr rfl (es_loc ok rfl)) (es_int rfl)))))
     (bs_cons (ss_set ok rfl (es_bin (op_and _) (es_loc ok rfl) (es_inv (es_sub (es_attr rfl (es_loc ok rfl)) (es_bin (op_sub _) (es_loc ok rfl) (es_int rfl))))))
     (bs_one (ss_for (tgt_var ok rfl) (es_range1 ok (by kernel_rfl) (es_attr rfl (es_loc ok rfl)))
      (bs_cons (ss_set ok rfl (es_bin (op_shl _) (es_int rfl) (es_loc ok rfl)))
      (bs_cons (ss_set ok rfl (es_bin (op_or _) (es_bin (op_and _) (es_bin (op_shl _) (es_loc ok rfl) (es_int rfl)) (es_loc ok rfl)) (es_bin (op_and _) (es_bin (op_shr _) (es_loc ok rfl) (es_int rfl)) (es_loc ok rfl))))
      (bs_cons (ss_set ok rfl (es_bin (op_or _) (es_bin (op_and _) (es_bin (op_shl _) (es_loc ok rfl) (es_int rfl)) (es_loc ok rfl)) (es_bin (op_and _) (es_bin (op_shr _) (es_loc ok rfl) (es_int rfl)) (es_loc ok rfl))))
      (bs_cons (ss_set ok rfl (es_bin (op_or _) (es_bin (op_or _) (es_bin (op_or _) (es_bin (op_shl _) (es_loc ok rfl) (es_bin (op_mul _) (es_int rfl) (es_loc ok rfl))) (es_bin (op_shr _) (es_loc ok rfl) (es_bin (op_mul _) (es_int rfl) (es_loc ok rfl)))) (es_bin (op_shl _) (es_loc ok rfl) (es_loc ok rfl))) (es_bin (op_shr _) (es_loc ok rfl) (es_loc ok rfl))))
      (bs_one (ss_expr (es_append (es_attr rfl (es_loc ok rfl)) (es_bin (op_and _) (es_loc ok rfl) (es_attr rfl (es_loc ok rfl))) rfl) (by intro _; rfl))))))))))))))

theorem at_add_castles (B : Own G) : FnAt G "add_castles" 237 := ⟨B.glob (by kernel_rfl), _, _, B.at rfl, rfl⟩
theorem fs_add_castles (B : Own G) : FS G 1 f_add_castles 237 := by
  refine FS.of (G := G) (f := Fx.mk "add_castles" ?cs 237 (.ref 236) ["geo", "start", "index", "base", "corner", "way", "goal"]) (n := 0) (fo := ?fo) (fname := ?p0) (params := ?p1) (body := ?p2) (doc := ?p3) (pm := ?p4) (ct := ?p5) (an := ?p6) ?ok (B.at ?hl) ?hd ?hcd ?hu ?hlen ?hcell ?hbind ?hb ?hco ?hgen
  case hl => exact rfl
  case hd => exact rfl
  case ok => exact ⟨rfl, by decide +kernel, by decide +kernel, by decide +kernel⟩
  case hcd => exact ⟨_, _, _, _, rfl, B.at (by rfl), rfl, rfl⟩
  case hu => rfl
  case hlen => decide
  case hcell => decide +kernel
  case hbind => intro us h; rcases us with _ | ⟨_, _ | ⟨_, us⟩⟩ <;> first | rfl | (exfalso; simp only [List.length_cons, List.length_nil] at h; omega)
  case hco => rfl
  case hgen => rfl
  case hb =>
    intro ok
    unfold b_add_castles
    exact (bs_cons (ss_sattr rfl (es_loc ok rfl) (es_rep (es_int rfl) (es_attr rfl (es_loc ok rfl))))
     (bs_cons (ss_set ok rfl (es_bin (op_div _) (es_attr rfl (es_loc ok rfl)) (es_int rfl)))
     (bs_one (ss_for (tgt_var ok rfl) (es_range1 ok (by kernel_rfl) (es_int rfl))
      (bs_cons (ss_set ok rfl (es_bin (op_mul _) (es_bin (op_mul _) (es_bin (op_shr _) (es_loc ok rfl) (es_int rfl)) (es_bin (op_sub _) (es_attr rfl (es_loc ok rfl)) (es_int rfl))) (es_attr rfl (es_loc ok rfl))))
      (bs_cons (ss_set ok rfl (es_bin (op_sub _) (es_attr rfl (es_loc ok rfl)) (es_int rfl)))
      (bs_cons (ss_set ok rfl (es_int rfl))
      (bs_cons (ss_if (TS.of (es_bin (op_and _) (es_loc ok rfl) (es_int rfl)))
       (bs_cons (ss_set ok rfl (es_int rfl))
       (bs_one (ss_set ok rfl (es_neg (es_int rfl)))))
       bs_nil)
      (bs_cons (ss_set ok rfl (es_bin (op_add _) (es_loc ok rfl) (es_bin (op_mul _) (es_int rfl) (es_loc ok rfl))))
      (bs_one (ss_if (ts_bool (at_and (TS.of (es_attr rfl (es_loc ok rfl))) (at_one (ts_cmp (cm_gt _) (es_bin (op_mul _) (es_bin (op_sub _) (es_loc ok rfl) (es_loc ok rfl)) (es_loc ok rfl)) (es_int rfl)))))
       (bs_cons (ss_expr (es_append (es_attr rfl (es_loc ok rfl)) (es_tup (ls_cons (es_bin (op_add _) (es_loc ok rfl) (es_loc ok rfl)) (ls_cons (es_bin (op_add _) (es_loc ok rfl) (es_loc ok rfl)) (ls_cons (es_bin (op_add _) (es_loc ok rfl) (es_loc ok rfl)) (ls_cons (es_bin (op_sub _) (es_bin (op_add _) (es_loc ok rfl) (es_loc ok rfl)) (es_loc ok rfl)) ls_nil))))) rfl) (by intro _; rfl))
       (bs_cons (ss_saugsub (iop_or _) (es_attr rfl (es_loc ok rfl)) (es_bin (op_add _) (es_loc ok rfl) (es_loc ok rfl)) (es_bin (op_shl _) (es_int rfl) (es_loc ok rfl)))
       (bs_one (ss_saugsub (iop_or _) (es_attr rfl (es_loc ok rfl)) (es_bin (op_add _) (es_loc ok rfl) (es_loc ok rfl)) (es_bin (op_shl _) (es_int rfl) (es_loc ok rfl))))))
       (bs_one (ss_expr (es_append (es_attr rfl (es_loc ok rfl)) es_none rfl) (by intro _; rfl))))))))))))))

theorem at_make_geometry (B : Own G) : FnAt G "make_geometry" 244 := ⟨B.glob (by kernel_rfl), _, _, B.at rfl, rfl⟩
theorem fs_make_geometry (B : Own G) : FS G 4 f_make_geometry 244 := by
  refine FS.of (G := G) (f := Fx.mk "make_geometry" ?cs 244 (.ref 243) ["files", "ranks", "has_double", "has_castling", "geo"]) (n := 3) (fo := ?fo) (fname := ?p0) (params := ?p1) (body := ?p2) (doc := ?p3) (pm := ?p4) (ct := ?p5) (an := ?p6) ?ok (B.at ?hl) ?hd ?hcd ?hu ?hlen ?hcell ?hbind ?hb ?hco ?hgen
  case hl => exact rfl
  case hd => exact rfl
  case ok => exact ⟨rfl, by decide +kernel, by decide +kernel, by decide +kernel⟩
  case hcd => exact ⟨_, _, _, _, rfl, B.at (by rfl), rfl, rfl⟩
  case hu => rfl
  case hlen => decide
  case hcell => decide +kernel
  case hbind => intro us h; rcases us with _ | ⟨_, _ | ⟨_, _ | ⟨_, _ | ⟨_, _ | ⟨_, us⟩⟩⟩⟩⟩ <;> first | rfl | (exfalso; simp only [List.length_cons, List.length_nil] at h; omega)
  case hco => rfl
  case hgen => rfl
  case hb =>
    intro ok
    unfold b_make_geometry
    exact (bs_cons (ss_if (ts_bool (at_or (ts_cmp (cm_lt _) (es_loc ok rfl) (es_int rfl)) (at_or (ts_cmp (cm_gt _) (es_loc ok rfl) (es_int rfl)) (at_or (ts_cmp (cm_lt _) (es_loc ok rfl) (es_int rfl)) (at_one (ts_cmp (cm_gt _) (es_loc ok rfl) (es_int rfl)))))))
      (bs_one ss_raise)
      bs_nil)
     (bs_cons (ss_set ok rfl (es_new ok (by kernel_rfl) (by kernel_rfl) (mg_Geometry B) (keep_Geometry B) ((fs_Geometry_init' B).more (by decide)) (ls_cons (es_loc ok rfl) (ls_cons (es_loc ok rfl) (ls_cons (es_loc ok rfl) (ls_cons (es_loc ok rfl) ls_nil))))))
     (bs_cons (ss_expr (es_call ok (by kernel_rfl) (by kernel_rfl) (at_add_masks B) ((fs_add_masks B).more (by decide)) (ls_cons (es_loc ok rfl) ls_nil)) (by intro _; rfl))
     (bs_cons (ss_expr (es_call ok (by kernel_rfl) (by kernel_rfl) (at_add_rays B) ((fs_add_rays B).more (by decide)) (ls_cons (es_loc ok rfl) ls_nil)) (by intro _; rfl))
     (bs_cons (ss_expr (es_call ok (by kernel_rfl) (by kernel_rfl) (at_add_pawns B) ((fs_add_pawns B).more (by decide)) (ls_cons (es_loc ok rfl) ls_nil)) (by intro _; rfl))
     (bs_cons (ss_expr (es_call ok (by kernel_rfl) (by kernel_rfl) (at_add_knights B) ((fs_add_knights B).more (by decide)) (ls_cons (es_loc ok rfl) ls_nil)) (by intro _; rfl))
     (bs_cons (ss_expr (es_call ok (by kernel_rfl) (by kernel_rfl) (at_add_castles B) ((fs_add_castles B).more (by decide)) (ls_cons (es_loc ok rfl) ls_nil)) (by intro _; rfl))
     (bs_one (ss_ret (es_loc ok rfl))))))))))

theorem at__law_near (B : Own G) : FnAt G "_law_near" 251 := ⟨B.glob (by kernel_rfl), _, _, B.at rfl, rfl⟩
theorem fs__law_near (B : Own G) : FS G 1 f__law_near 251 := by
  refine FS.of (G := G) (f := Fx.mk "_law_near" ?cs 251 (.ref 250) ["files", "size", "out", "a", "row", "b", "aside", "along"]) (n := 0) (fo := ?fo) (fname := ?p0) (params := ?p1) (body := ?p2) (doc := ?p3) (pm := ?p4) (ct := ?p5) (an := ?p6) ?ok (B.at ?hl) ?hd ?hcd ?hu ?hlen ?hcell ?hbind ?hb ?hco ?hgen
  case hl => exact rfl
  case hd => exact rfl
  case ok => exact ⟨rfl, by decide +kernel, by decide +kernel, by decide +kernel⟩
  case hcd => exact ⟨_, _, _, _, rfl, B.at (by rfl), rfl, rfl⟩
  case hu => rfl
  case hlen => decide
  case hcell => decide +kernel
  case hbind => intro us h; rcases us with _ | ⟨_, _ | ⟨_, _ | ⟨_, us⟩⟩⟩ <;> first | rfl | (exfalso; simp only [List.length_cons, List.length_nil] at h; omega)
  case hco => rfl
  case hgen => rfl
  case hb =>
    intro ok
    unfold b__law_near
    exact (bs_cons (ss_set ok rfl (es_list ls_nil))
     (bs_cons (ss_for (tgt_var ok rfl) (es_range1 ok (by kernel_rfl) (es_loc ok rfl))
      (bs_cons (ss_set ok rfl (es_list ls_nil))
      (bs_cons (ss_for (tgt_var ok rfl) (es_range1 ok (by kernel_rfl) (es_loc ok rfl))
       (bs_cons (ss_set ok rfl (es_abs ok (by kernel_rfl) (es_bin (op_sub _) (es_bin (op_mod _) (es_loc ok rfl) (es_loc ok rfl)) (es_bin (op_mod _) (es_loc ok rfl) (es_loc ok rfl)))))
       (bs_cons (ss_set ok rfl (es_abs ok (by kernel_rfl) (es_bin (op_sub _) (es_bin (op_div _) (es_loc ok rfl) (es_loc ok rfl)) (es_bin (op_div _) (es_loc ok rfl) (es_loc ok rfl)))))
       (bs_one (ss_if (ts_bool (at_and (ts_cmp (cm_ne _) (es_loc ok rfl) (es_loc ok rfl)) (at_and (ts_cmp (cm_le _) (es_loc ok rfl) (es_int rfl)) (at_one (ts_cmp (cm_le _) (es_loc ok rfl) (es_int rfl))))))
        (bs_one (ss_expr (es_append (es_loc ok rfl) (es_loc ok rfl) rfl) (by intro _; rfl)))
        bs_nil)))))
      (bs_one (ss_expr (es_append (es_loc ok rfl) (es_loc ok rfl) rfl) (by intro _; rfl))))))
     (bs_one (ss_ret (es_loc ok rfl)))))

theorem at__law_after (B : Own G) : FnAt G "_law_after" 258 := ⟨B.glob (by kernel_rfl), _, _, B.at rfl, rfl⟩
theorem fs__law_after (B : Own G) : FS G 1 f__law_after 258 := by
  refine FS.of (G := G) (f := Fx.mk "_law_after" ?cs 258 (.ref 257) ["files", "ranks", "double", "near", "side", "strong", "pawn", "weak", "file", "rank", "held", "out", "ahead", "goal"]) (n := 0) (fo := ?fo) (fname := ?p0) (params := ?p1) (body := ?p2) (doc := ?p3) (pm := ?p4) (ct := ?p5) (an := ?p6) ?ok (B.at ?hl) ?hd ?hcd ?hu ?hlen ?hcell ?hbind ?hb ?hco ?hgen
  case hl => exact rfl
  case hd => exact rfl
  case ok => exact ⟨rfl, by decide +kernel, by decide +kernel, by decide +kernel⟩
  case hcd => exact ⟨_, _, _, _, rfl, B.at (by rfl), rfl, rfl⟩
  case hu => rfl
  case hlen => decide
  case hcell => decide +kernel
  case hbind => intro us h; rcases us with _ | ⟨_, _ | ⟨_, _ | ⟨_, _ | ⟨_, _ | ⟨_, _ | ⟨_, _ | ⟨_, _ | ⟨_, _ | ⟨_, us⟩⟩⟩⟩⟩⟩⟩⟩⟩ <;> first | rfl | (exfalso; simp only [List.length_cons, List.length_nil] at h; omega)
  case hco => rfl
  case hgen => rfl
  case hb =>
    intro ok
    unfold b__law_after
    exact (bs_cons (ss_if (ts_bool (at_or (ts_cmp (cm_eq _) (es_loc ok rfl) (es_loc ok rfl)) (at_or (ts_cmp (cm_eq _) (es_loc ok rfl) (es_loc ok rfl)) (at_or (ts_cmp (cm_eq _) (es_loc ok rfl) (es_loc ok rfl)) (at_one (ts_in (es_loc ok rfl) (es_sub (es_loc ok rfl) (es_loc ok rfl))))))))
      (bs_one (ss_ret (es_tup (ls_cons (es_int rfl) (ls_cons (es_list ls_nil) ls_nil)))))
      bs_nil)
     (bs_cons (ss_set ok rfl (es_bin (op_mod _) (es_loc ok rfl) (es_loc ok rfl)))
     (bs_cons (ss_set ok rfl (es_bin (op_div _) (es_loc ok rfl) (es_loc ok rfl)))
     (bs_cons (ss_set ok rfl (es_list ls_nil))
     (bs_cons (ss_if (ts_cmp (cm_gt _) (es_loc ok rfl) (es_int rfl))
      (bs_one (ss_expr (es_append (es_loc ok rfl) (es_bin (op_sub _) (es_bin (op_add _) (es_loc ok rfl) (es_loc ok rfl)) (es_int rfl)) rfl) (by intro _; rfl)))
      bs_nil)
     (bs_cons (ss_if (ts_cmp (cm_lt _) (es_loc ok rfl) (es_bin (op_sub _) (es_loc ok rfl) (es_int rfl)))
      (bs_one (ss_expr (es_append (es_loc ok rfl) (es_bin (op_add _) (es_bin (op_add _) (es_loc ok rfl) (es_loc ok rfl)) (es_int rfl)) rfl) (by intro _; rfl)))
      bs_nil)
     (bs_cons (ss_set ok rfl (es_list ls_nil))
     (bs_cons (ss_if (ts_cmp (cm_eq _) (es_loc ok rfl) (es_int rfl))
      (bs_cons (ss_if (ts_in (es_loc ok rfl) (es_loc ok rfl))
       (bs_one (ss_ret (es_tup (ls_cons (es_int rfl) (ls_cons (es_list ls_nil) ls_nil)))))
       bs_nil)
      (bs_cons (ss_set ok rfl (es_bin (op_add _) (es_loc ok rfl) (es_loc ok rfl)))
      (bs_cons (ss_if (ts_bool (at_and (ts_cmp (cm_ne _) (es_loc ok rfl) (es_loc ok rfl)) (at_one (ts_cmp (cm_ne _) (es_loc ok rfl) (es_loc ok rfl)))))
       (bs_one (ss_if (ts_cmp (cm_eq _) (es_loc ok rfl) (es_bin (op_sub _) (es_loc ok rfl) (es_int rfl)))
        (bs_one (ss_if (ts_bool (at_or (ts_notin (es_loc ok rfl) (es_sub (es_loc ok rfl) (es_loc ok rfl))) (at_one (ts_in (es_loc ok rfl) (es_sub (es_loc ok rfl) (es_loc ok rfl))))))
         (bs_one (ss_ret (es_tup (ls_cons (es_int rfl) (ls_cons (es_list ls_nil) ls_nil)))))
         bs_nil))
        (bs_cons (ss_expr (es_append (es_loc ok rfl) (es_tup (ls_cons (es_int rfl) (ls_cons (es_loc ok rfl) (ls_cons (es_loc ok rfl) (ls_cons (es_loc ok rfl) ls_nil))))) rfl) (by intro _; rfl))
        (bs_one (ss_if (ts_bool (at_and (TS.of (es_loc ok rfl)) (at_and (ts_cmp (cm_eq _) (es_loc ok rfl) (es_int rfl)) (at_and (ts_cmp (cm_ne _) (es_bin (op_add _) (es_loc ok rfl) (es_loc ok rfl)) (es_loc ok rfl)) (at_one (ts_cmp (cm_ne _) (es_bin (op_add _) (es_loc ok rfl) (es_loc ok rfl)) (es_loc ok rfl)))))))
         (bs_one (ss_expr (es_append (es_loc ok rfl) (es_tup (ls_cons (es_int rfl) (ls_cons (es_loc ok rfl) (ls_cons (es_bin (op_add _) (es_loc ok rfl) (es_loc ok rfl)) (ls_cons (es_loc ok rfl) ls_nil))))) rfl) (by intro _; rfl)))
         bs_nil)))))
       bs_nil)
      (bs_cons (ss_for (tgt_var ok rfl) (es_sub (es_loc ok rfl) (es_loc ok rfl))
       (bs_one (ss_if (ts_bool (at_and (ts_cmp (cm_ne _) (es_loc ok rfl) (es_loc ok rfl)) (at_one (ts_notin (es_loc ok rfl) (es_sub (es_loc ok rfl) (es_loc ok rfl))))))
        (bs_one (ss_expr (es_append (es_loc ok rfl) (es_tup (ls_cons (es_int rfl) (ls_cons (es_loc ok rfl) (ls_cons (es_loc ok rfl) (ls_cons (es_loc ok rfl) ls_nil))))) rfl) (by intro _; rfl)))
        bs_nil)))
      (bs_one (ss_ret (es_tup (ls_cons (es_int rfl) (ls_cons (es_loc ok rfl) ls_nil)))))))))
      bs_nil)
     (bs_cons (ss_for (tgt_var ok rfl) (es_sub (es_loc ok rfl) (es_loc ok rfl))
      (bs_one (ss_if (ts_bool (at_and (ts_notin (es_loc ok rfl) (es_sub (es_loc ok rfl) (es_loc ok rfl))) (at_one (ts_notin (es_loc ok rfl) (es_loc ok rfl)))))
       (bs_cons (ss_if (ts_cmp (cm_eq _) (es_loc ok rfl) (es_loc ok rfl))
        (bs_one (ss_ret (es_tup (ls_cons (es_int rfl) (ls_cons (es_list ls_nil) ls_nil)))))
        bs_nil)
       (bs_one (ss_expr (es_append (es_loc ok rfl) (es_tup (ls_cons (es_int rfl) (ls_cons (es_loc ok rfl) (ls_cons (es_loc ok rfl) (ls_cons (es_loc ok rfl) ls_nil))))) rfl) (by intro _; rfl))))
       bs_nil)))
     (bs_cons (ss_if (ts_isNil (es_loc ok rfl))
      (bs_one (ss_ret (es_tup (ls_cons (es_int rfl) (ls_cons (es_list ls_nil) ls_nil)))))
      bs_nil)
     (bs_one (ss_ret (es_tup (ls_cons (es_int rfl) (ls_cons (es_loc ok rfl) ls_nil)))))))))))))))

theorem at__law_is_won (B : Own G) : FnAt G "_law_is_won" 265 := ⟨B.glob (by kernel_rfl), _, _, B.at rfl, rfl⟩
theorem fs__law_is_won (B : Own G) : FS G 1 f__law_is_won 265 := by
  refine FS.of (G := G) (f := Fx.mk "_law_is_won" ?cs 265 (.ref 264) ["side", "known", "count"]) (n := 0) (fo := ?fo) (fname := ?p0) (params := ?p1) (body := ?p2) (doc := ?p3) (pm := ?p4) (ct := ?p5) (an := ?p6) ?ok (B.at ?hl) ?hd ?hcd ?hu ?hlen ?hcell ?hbind ?hb ?hco ?hgen
  case hl => exact rfl
  case hd => exact rfl
  case ok => exact ⟨rfl, by decide +kernel, by decide +kernel, by decide +kernel⟩
  case hcd => exact ⟨_, _, _, _, rfl, B.at (by rfl), rfl, rfl⟩
  case hu => rfl
  case hlen => decide
  case hcell => decide +kernel
  case hbind => intro us h; rcases us with _ | ⟨_, _ | ⟨_, _ | ⟨_, _ | ⟨_, us⟩⟩⟩⟩ <;> first | rfl | (exfalso; simp only [List.length_cons, List.length_nil] at h; omega)
  case hco => rfl
  case hgen => rfl
  case hb =>
    intro ok
    unfold b__law_is_won
    exact (bs_cons (ss_if (ts_cmp (cm_eq _) (es_loc ok rfl) (es_int rfl))
      (bs_one (ss_ret (es_cmp (cm_gt _) (es_loc ok rfl) (es_int rfl))))
      bs_nil)
     (bs_one (ss_ret (es_cmp (cm_eq _) (es_loc ok rfl) (es_loc ok rfl)))))

theorem at__law_solve (B : Own G) : FnAt G "_law_solve" 272 := ⟨B.glob (by kernel_rfl), _, _, B.at rfl, rfl⟩
theorem fs__law_solve (B : Own G) : FS G 2 f__law_solve 272 := by
  refine FS.of (G := G) (f := Fx.mk "_law_solve" ?cs 272 (.ref 271) ["files", "ranks", "near", "column", "size", "won", "told", "nodes", "pawn", "strong", "weak", "side", "place", "sort", "out", "is_new", "known", "one"]) (n := 1) (fo := ?fo) (fname := ?p0) (params := ?p1) (body := ?p2) (doc := ?p3) (pm := ?p4) (ct := ?p5) (an := ?p6) ?ok (B.at ?hl) ?hd ?hcd ?hu ?hlen ?hcell ?hbind ?hb ?hco ?hgen
  case hl => exact rfl
  case hd => exact rfl
  case ok => exact ⟨rfl, by decide +kernel, by decide +kernel, by decide +kernel⟩
  case hcd => exact ⟨_, _, _, _, rfl, B.at (by rfl), rfl, rfl⟩
  case hu => rfl
  case hlen => decide
  case hcell => decide +kernel
  case hbind => intro us h; rcases us with _ | ⟨_, _ | ⟨_, _ | ⟨_, _ | ⟨_, _ | ⟨_, us⟩⟩⟩⟩⟩ <;> first | rfl | (exfalso; simp only [List.length_cons, List.length_nil] at h; omega)
  case hco => rfl
  case hgen => rfl
  case hb =>
    intro ok
    unfold b__law_solve
    exact (bs_cons (ss_set ok rfl (es_bin (op_mul _) (es_loc ok rfl) (es_loc ok rfl)))
     (bs_cons (ss_set ok rfl es_dict)
     (bs_cons (ss_set ok rfl es_dict)
     (bs_cons (ss_set ok rfl (es_list ls_nil))
     (bs_cons (ss_for (tgt_var ok rfl) (es_range3 ok (by kernel_rfl) (es_bin (op_add _) (es_loc ok rfl) (es_loc ok rfl)) (es_bin (op_sub _) (es_loc ok rfl) (es_loc ok rfl)) (es_loc ok rfl))
      (bs_one (ss_for (tgt_var ok rfl) (es_range1 ok (by kernel_rfl) (es_loc ok rfl))
       (bs_one (ss_for (tgt_var ok rfl) (es_range1 ok (by kernel_rfl) (es_loc ok rfl))
        (bs_one (ss_for (tgt_var ok rfl) (es_tup (ls_cons (es_int rfl) (ls_cons (es_int rfl) ls_nil)))
         (bs_cons (ss_set ok rfl (es_tup (ls_cons (es_loc ok rfl) (ls_cons (es_loc ok rfl) (ls_cons (es_loc ok rfl) (ls_cons (es_loc ok rfl) ls_nil))))))
         (bs_cons (ss_unpack ok (he_cons rfl (he_cons rfl he_nil)) rfl (es_call ok (by kernel_rfl) (by kernel_rfl) (at__law_after B) ((fs__law_after B).more (by decide)) (ls_cons (es_loc ok rfl) (ls_cons (es_loc ok rfl) (ls_cons es_bool (ls_cons (es_loc ok rfl) (ls_cons (es_loc ok rfl) (ls_cons (es_loc ok rfl) (ls_cons (es_loc ok rfl) (ls_cons (es_loc ok rfl) ls_nil))))))))))
         (bs_cons (ss_ssub (es_loc ok rfl) (es_loc ok rfl) (es_bin (op_mul _) (es_min ok (by kernel_rfl) (es_loc ok rfl) (es_int rfl)) (es_int rfl)))
         (bs_cons (ss_if (ts_cmp (cm_eq _) (es_loc ok rfl) (es_int rfl))
          (bs_one (ss_ssub (es_loc ok rfl) (es_loc ok rfl) es_bool))
          bs_nil)
         (bs_one (ss_if (ts_cmp (cm_eq _) (es_loc ok rfl) (es_int rfl))
          (bs_one (ss_expr (es_append (es_loc ok rfl) (es_tup (ls_cons (es_loc ok rfl) (ls_cons (es_loc ok rfl) ls_nil))) rfl) (by intro _; rfl)))
          bs_nil)))))))))))))
     (bs_cons (ss_set ok rfl es_bool)
     (bs_cons (ss_while (TS.of (es_loc ok rfl))
      (bs_cons (ss_set ok rfl es_bool)
      (bs_one (ss_for (tgt_tup ok (he_cons rfl (he_cons rfl he_nil)) rfl) (es_loc ok rfl)
       (bs_one (ss_if (ts_notin (es_loc ok rfl) (es_loc ok rfl))
        (bs_cons (ss_set ok rfl (es_int rfl))
        (bs_cons (ss_for (tgt_var ok rfl) (es_loc ok rfl)
         (bs_one (ss_if (ts_in (es_loc ok rfl) (es_loc ok rfl))
          (bs_one (ss_aug ok rfl (iop_add _) (es_int rfl)))
          bs_nil)))
        (bs_one (ss_if (TS.of (es_call ok (by kernel_rfl) (by kernel_rfl) (at__law_is_won B) ((fs__law_is_won B).more (by decide)) (ls_cons (es_sub (es_loc ok rfl) (es_int rfl)) (ls_cons (es_loc ok rfl) (ls_cons (es_len ok (by kernel_rfl) (es_loc ok rfl)) ls_nil)))))
         (bs_cons (ss_ssub (es_loc ok rfl) (es_loc ok rfl) es_bool)
         (bs_one (ss_set ok rfl es_bool)))
         bs_nil))))
        bs_nil))))))
     (bs_cons (ss_for (tgt_var ok rfl) (es_loc ok rfl)
      (bs_one (ss_ssub (es_loc ok rfl) (es_loc ok rfl) (es_int rfl))))
     (bs_one (ss_ret (es_loc ok rfl)))))))))))

theorem at__law_mirror (B : Own G) : FnAt G "_law_mirror" 279 := ⟨B.glob (by kernel_rfl), _, _, B.at rfl, rfl⟩
theorem fs__law_mirror (B : Own G) : FS G 1 f__law_mirror 279 := by
  refine FS.of (G := G) (f := Fx.mk "_law_mirror" ?cs 279 (.ref 278) ["files", "square"]) (n := 0) (fo := ?fo) (fname := ?p0) (params := ?p1) (body := ?p2) (doc := ?p3) (pm := ?p4) (ct := ?p5) (an := ?p6) ?ok (B.at ?hl) ?hd ?hcd ?hu ?hlen ?hcell ?hbind ?hb ?hco ?hgen
  case hl => exact rfl
  case hd => exact rfl
  case ok => exact ⟨rfl, by decide +kernel, by decide +kernel, by decide +kernel⟩
  case hcd => exact ⟨_, _, _, _, rfl, B.at (by rfl), rfl, rfl⟩
  case hu => rfl
  case hlen => decide
  case hcell => decide +kernel
  case hbind => intro us h; rcases us with _ | ⟨_, _ | ⟨_, _ | ⟨_, us⟩⟩⟩ <;> first | rfl | (exfalso; simp only [List.length_cons, List.length_nil] at h; omega)
  case hco => rfl
  case hgen => rfl
  case hb =>
    intro ok
    unfold b__law_mirror
    exact (bs_one (ss_ret (es_bin (op_sub _) (es_bin (op_sub _) (es_bin (op_add _) (es_bin (op_sub _) (es_loc ok rfl) (es_bin (op_mod _) (es_loc ok rfl) (es_loc ok rfl))) (es_loc ok rfl)) (es_int rfl)) (es_bin (op_mod _) (es_loc ok rfl) (es_loc ok rfl)))))

theorem at__law_turn (B : Own G) : FnAt G "_law_turn" 286 := ⟨B.glob (by kernel_rfl), _, _, B.at rfl, rfl⟩
theorem fs__law_turn (B : Own G) : FS G 1 f__law_turn 286 := by
  refine FS.of (G := G) (f := Fx.mk "_law_turn" ?cs 286 (.ref 285) ["files", "ranks", "square"]) (n := 0) (fo := ?fo) (fname := ?p0) (params := ?p1) (body := ?p2) (doc := ?p3) (pm := ?p4) (ct := ?p5) (an := ?p6) ?ok (B.at ?hl) ?hd ?hcd ?hu ?hlen ?hcell ?hbind ?hb ?hco ?hgen
  case hl => exact rfl
  case hd => exact rfl
  case ok => exact ⟨rfl, by decide +kernel, by decide +kernel, by decide +kernel⟩
  case hcd => exact ⟨_, _, _, _, rfl, B.at (by rfl), rfl, rfl⟩
  case hu => rfl
  case hlen => decide
  case hcell => decide +kernel
  case hbind => intro us h; rcases us with _ | ⟨_, _ | ⟨_, _ | ⟨_, _ | ⟨_, us⟩⟩⟩⟩ <;> first | rfl | (exfalso; simp only [List.length_cons, List.length_nil] at h; omega)
  case hco => rfl
  case hgen => rfl
  case hb =>
    intro ok
    unfold b__law_turn
    exact (bs_one (ss_ret (es_bin (op_add _) (es_bin (op_mul _) (es_bin (op_sub _) (es_bin (op_sub _) (es_loc ok rfl) (es_int rfl)) (es_bin (op_div _) (es_loc ok rfl) (es_loc ok rfl))) (es_loc ok rfl)) (es_bin (op_mod _) (es_loc ok rfl) (es_loc ok rfl)))))

end
end Kp
end
-- part KpExc
section
set_option autoImplicit false
set_option linter.unusedVariables false
set_option maxRecDepth 100000
set_option Elab.async false
namespace Kp
open PySem PySem.W PyProof.Rows PySem.Calls

abbrev FE := PySem.F.excBase_Exception
abbrev bmE : List Value := [.type "Exception", .type "BaseException", .type "object"]
abbrev bm58 : List Value := .ref 38 :: bmE
noncomputable abbrev K39 (w : World) : Frag := kP w.params
section
variable {prog : Program} {w : World} {A : Around} {E : Value → Shared → Prop} {h : Heap} {g : Array GenState} {d : Drawn} {t : Nat} {os : OsState}

theorem cls58 (w : World) : ∃ nm q N bs hdct sn sub ab col dd k0 k1 k2 k3 k5, (K39 w).lookup 58 = some (excClassObj nm q 58 N bs bm58 hdct sn sub ab col dd k0 k1 k2 k3 k5 "Exception.__new__") :=
  ⟨_, _, _, _, _, _, _, _, _, _, _, _, _, _, _, rfl⟩

variable {nm q : Str} {C N : Addr} {bs bm : List Value} {hdct : Bool} {sn : List Str} {sub : List Value} {ab : Bool} {col : Option Bool} {dd : Option Addr} {k0 k1 k2 k3 k5 : Option Value}

theorem check_init {M : Model} {e : Addr} {oe : Obj} {rest : List Value} {Q : Unit → Shared → Prop} (hB : bm.contains (.type "Exception") = true)
    (hC : h.get? C = some (excClassObj nm q C N bs bm hdct sn sub ab col dd k0 k1 k2 k3 k5 "Exception.__new__")) (he : h.get? e = some oe) (hcls : oe.cls = .ref C) (hq : Q () ⟨h, g, d, t, os⟩) :
    wpAny M A (checkBuiltinCall "Exception.__init__" ⟨.ref e :: rest, []⟩) Q E ⟨h, g, d, t, os⟩ := by
  have F := FE
  have hcB : (Value.ref C :: bm).contains (.type "Exception") = true := by rw [List.contains_cons, hB, Bool.or_true]
  have hshort := F.noStar
  simp only [checkBuiltinCall, F.initKind, F.initSplit, F.initRow]
  repeat (first | (with_reducible refine wpAny_loadPart_at he ?_; rw [hcls]) | with_reducible refine wpAny_loadPart_at hC ?_ | (with_reducible refine wpAny_isSubtype_exc hC ?_; rw [hcB]) | wp_step)
  refine wpAny_onRaise ?_
  rw [show ∀ (a b : String) (n : Nat), Bind.check ⟨.positional, "*", "Exception", .self, [⟨"args", .varPos, false⟩]⟩ a b n (List.map (fun x => x.fst) ({ pos := Value.ref e :: rest } : Args).kw) = pure () from
    fun a b n => check_star_args _ _ _ _ _ _]
  exact wpAny_pure hq
theorem check_new {M : Model} {rest : List Value} {Q : Unit → Shared → Prop} (hB : bm.contains (.type "Exception") = true) (hC : h.get? C = some (excClassObj nm q C N bs bm hdct sn sub ab col dd k0 k1 k2 k3 k5 "Exception.__new__"))
    (hq : Q () ⟨h, g, d, t, os⟩) : wpAny M A (checkBuiltinCall "Exception.__new__" ⟨.ref C :: rest, []⟩) Q E ⟨h, g, d, t, os⟩ := by
  have F := FE
  have hcont : (Value.ref C :: bm).contains (.type "Exception") = true := by rw [List.contains_cons, hB, Bool.or_true]
  have hstar := F.noStar
  simp only [checkBuiltinCall, F.newKind, F.newSplit, F.newRow]
  repeat (first | refine wpAny_loadPart_at hC ?_ | (refine wpAny_isSubtype_exc hC ?_; rw [hcont]) | refine wpAny_staticBase_exc hC ?_ | refine wpAny_madeBy_exc hC ?_ | simp only [bne_self_eq_false, Bool.false_eq_true, if_false] | wp_step)
  exact hq
theorem exc_new {R : Result → Shared → Prop} {rest : List Value} (hB : bm.contains (.type "Exception") = true) (hA : bm.contains (.type "AttributeError") = false) (hN : bm.contains (.type "NameError") = false)
    (hC : h.get? C = some (excClassObj nm q C N bs bm hdct sn sub ab col dd k0 k1 k2 k3 k5 "Exception.__new__"))
    (hq : R (.ok (.ret (.ref (h.objs.size + 1)))) ⟨(h.push { cls := .type "tuple", data := .seq rest.toArray }).push
      { cls := .ref C, data := .fields #[.ref h.objs.size, .none, .none, .none, .bool false, .none] }, g, d, t, os⟩) (hrest : rest.length ≤ sizeLine) :
    codeAny (model prog w) A (.builtin "Exception.__new__" ⟨.ref C :: rest, []⟩) R ⟨h, g, d, t, os⟩ := by
  have F := FE
  have hends := F.ends
  have hcB : (Value.ref C :: bm).contains (.type "Exception") = true := by rw [List.contains_cons, hB, Bool.or_true]
  have hcA : (Value.ref C :: bm).contains (.type "AttributeError") = false := by rw [List.contains_cons, hA]; rfl
  have hcN : (Value.ref C :: bm).contains (.type "NameError") = false := by rw [List.contains_cons, hN]; rfl
  refine codeAny_builtinAt F.entry ?_
  unfold Builtin.«BaseException.__new__»
  refine PySem.wpAt_bind ?_
  show PySem.wpAt _ _ _ (stack >>= _) _ _ _
  refine PySem.wpAt_bind (PySem.wpAt_stack fun p below => PySem.wpAt_of_wpAny ?_)
  wp_walk
  refine PySem.wpAt_of_wpAny ?_
  rw [F.owner]
  repeat (first | with_reducible refine wpAny_madeHere_exc F.canon hC ?_ | with_reducible refine wpAny_loadPart_at hC ?_ | (with_reducible refine wpAny_isSubtype_exc hC ?_; first | rw [hcB] | rw [hcA] | rw [hcN]) | wp_step)
  show R _ _
  rw [Heap.size_push]
  exact hq

-- an exception under way: its object, as far as asked
structure Exc (h₀ : Heap) (e : Addr) (n : Nat) (h : Heap) : Prop where
  keeps : ∀ b o, h₀.get? b = some o → h.get? b = some o
  new : h₀.get? e = none
  there : ∃ oe vs t, h.get? e = some oe ∧ oe.cls = .ref 58 ∧ oe.data = .fields vs ∧ vs[1]? = some .none ∧ vs[0]? = some (.ref t) ∧
    (oe.dict = none ∨ ∃ dd es m, oe.dict = some dd ∧ dd ≠ e ∧ h₀.get? dd = none ∧ h.get? dd = some (dictOf es m) ∧ (∀ x ∈ es, ∃ y t, x.key = .str y t) ∧ es.length ≤ n ∧ 0 < n)
theorem Exc.grow {h₀ h h' : Heap} {e : Addr} {n : Nat} (x : Exc h₀ e n h) (k : ∀ b o, h.get? b = some o → h'.get? b = some o) : Exc h₀ e n h' := by
  obtain ⟨x1, x2, oe, vs, t, a, b, c, d, f, z⟩ := x
  refine ⟨fun b o q => k _ _ (x1 b o q), x2, oe, vs, t, k _ _ a, b, c, d, f, ?_⟩
  rcases z with z | ⟨dd, es, m, z1, z2, z3, z4, z5⟩
  · exact .inl z
  · exact .inr ⟨dd, es, m, z1, z2, z3, k _ _ z4, z5⟩

-- Exception.__init__(self, v)
theorem exc_init {h₀ : Heap} {e : Addr} {n : Nat} {v : Value} {Q : Value → Shared → Prop} (X : (K39 w).In h) (x : Exc h₀ e n h)
    (hq : ∀ h', Exc h₀ e n h' → (∀ b o, b ≠ e → h.get? b = some o → h'.get? b = some o) → Q .none ⟨h', g, d, t, os⟩) : wpAny (model prog w) A (call (.builtin "Exception.__init__") [.ref e, v]) Q E ⟨h, g, d, t, os⟩ := by
  obtain ⟨x1, x2, oe, vs, t0, a, b, c, d1, f, z⟩ := x
  obtain ⟨_, _, _, _, _, _, _, _, _, _, _, _, _, _, _, hl⟩ := cls58 w
  have hC := X _ _ hl
  refine wpAny_call (codeAny_call_builtin FE.init.plain FE.initEntry (check_init (by decide) hC a b ?_))
  unfold Builtin.«BaseException.__init__»
  refine wpAny_bind (wpAny_newObj_type ?_ (by show [v].toArray.size ≤ sizeLine; rw [sizeLine_eq]; simp))
  have e1 : (h.push { cls := .type "tuple", data := .seq [v].toArray }).get? e = some oe := Heap.get?_push_of_some _ a
  have d3 := Obj.data_mapFields c (·.setIfInBounds 0 (Value.ref h.objs.size))
  have e3 := Heap.get?_update_self (Obj.mapFields (·.setIfInBounds 0 (Value.ref h.objs.size))) e1 (Obj.isFreed_of_fields d3)
  have oth : ∀ b o, b ≠ e → h.get? b = some o → ((h.push { cls := .type "tuple", data := .seq [v].toArray }).update e (Obj.mapFields (·.setIfInBounds 0 (Value.ref h.objs.size)))).get? b = some o := fun b o q r => by
    rw [Heap.get?_update_other _ _ (Ne.symm q)]; exact Heap.get?_push_of_some _ r
  have ne : ∀ b o, h₀.get? b = some o → b ≠ e := fun b o q r => by rw [r, x2] at q; cases q
  have fin : Exc h₀ e n ((h.push { cls := .type "tuple", data := .seq [v].toArray }).update e (Obj.mapFields (·.setIfInBounds 0 (Value.ref h.objs.size)))) := by
    refine ⟨fun b o q => oth b o (ne b o q) (x1 b o q), x2, _, _, h.objs.size, e3, (Obj.cls_mapFields ..).trans b, d3, ?_, ?_, ?_⟩
    · rw [Array.getElem?_setIfInBounds_ne (by decide)]; exact d1
    · have := (Array.getElem?_eq_some_iff.mp f).1
      simp [this]
    · have hdict : (Obj.mapFields (·.setIfInBounds 0 (Value.ref h.objs.size)) oe).dict = oe.dict := by obtain ⟨_, _, dt, _⟩ := oe; cases c; rfl
      rw [hdict]
      rcases z with z | ⟨dd, es, m, z1, z2, z3, z4, z5⟩
      · exact .inl z
      · exact .inr ⟨dd, es, m, z1, z2, z3, oth _ _ z2 z4, z5⟩
  refine wpAny_bind ?_
  unfold Builtin.BaseException.bexcPut
  refine wpAny_bind (wpAny_field e1 c f (wpAny_bind (wpAny_setField e1 c (Array.getElem?_eq_some_iff.mp f).1 ?_)))
  refine wpAny_bind (wpAny_holding (wpAny_point ?_))
  exact wpAny_pure (wpAny_pure (hq _ fin oth))

theorem refuse_bm (self : Value) : refuseLoop self "__setattr__" bmE = pure () := by
  unfold refuseLoop
  simp only [List.forIn_cons]
  have e1 : classOwn (.type "Exception") "__setattr__" = pure none := by show pure (builtinOwn _ _) = _; rw [builtinOwn_eq_fast]; kernel_rfl
  have e2 : classOwn (.type "BaseException") "__setattr__" = pure none := by show pure (builtinOwn _ _) = _; rw [builtinOwn_eq_fast]; kernel_rfl
  have e3 : classOwn (.type "object") "__setattr__" = pure (some (.builtin "object.__setattr__")) := by show pure (builtinOwn _ _) = _; rw [builtinOwn_eq_fast]; kernel_rfl
  rw [e1, e2, e3]
  rfl
theorem exc_inst {h₀ : Heap} {e : Addr} {n : Nat} (x : Exc h₀ e n h) : ∃ oe od, PySem.W.InstAt h e oe 58 od := by
  obtain ⟨x1, x2, oe, vs, t0, a, b, c, d1, f, z⟩ := x
  have nc : notCls oe = true := by unfold notCls; rw [c]
  rcases z with z | ⟨dd, es, m, z1, z2, z3, z4, z5⟩
  · exact ⟨oe, none, a, b, nc, by rw [z]; trivial⟩
  · exact ⟨oe, some (dictOf es m), a, b, nc, by rw [z1]; exact z4⟩
theorem ns_store {dd : Addr} {nm : Str} {tk : Tok} {v : Value} {es : List DictEntry} {m : Nat} {s : Shared} {R : PySem.Fin → Shared → Prop} (D : s.heap.get? dd = some (dictOf es m)) (hk : (getL nm es).isSome = true) (hz : es.length ≤ 1000)
    (hq : ∀ h' tk, h'.get? dd = some (dictOf (putL nm (PyData.keyHash w.params nm) (.str nm tk) v es) (putN nm es m)) → Heap.SameBut dd s.heap h' → R (.done (.ret .none)) { s with heap := h', toks := s.toks + 1 }) :
    wpAny (model prog w) A (Builtin.ObjectAttr.storeInDict dd (.str nm tk) nm v) R E s := by
  refine wpAny_bind (wpAny_pure (wpAny_bind ?_))
  unfold nsSet
  refine wpAny_bind (wpAny_bind (wpAny_askSetting (wpAny_pure (wpAny_bind (wpAny_mkText (wpAny_bind (wpAny_loadPart (s := { s with toks := s.toks + 1 }) D ?_)))))))
  dsimp only
  have c : (!es.toArray.any (·.key.isStr nm) && es.toArray.any (·.refKey)) = false := by
    rw [← Array.any_toList, ← Array.any_toList]
    unfold getL at hk
    split at hk
    · rename_i en he
      rw [List.any_eq_true.mpr ⟨en, List.mem_of_find?_eq_some he, List.find?_some he⟩]; rfl
    · split at hk
      · cases hk
      · rename_i z; rw [Bool.not_eq_true] at z
        show (_ && es.any _) = false
        rw [z, Bool.and_false]
  rw [aRefKeyMayBeTheName_at, c]
  have e : Obj.putName nm (PyData.keyHash w.params nm) (.str nm s.toks) v (dictOf es m) = dictOf (putL nm (PyData.keyHash w.params nm) (.str nm s.toks) v es) (putN nm es m) := putName_dict ..
  have D' : (s.heap.update dd (Obj.putName nm (PyData.keyHash w.params nm) (.str nm s.toks) v)).get? dd = some (dictOf (putL nm (PyData.keyHash w.params nm) (.str nm s.toks) v es) (putN nm es m)) := by
    rw [Heap.get?_update_self _ D (by rw [e]; rfl), e]
  have hlen := len_putL (nm := nm) (hsh := PyData.keyHash w.params nm) (key := .str nm s.toks) (v := v) es
  refine wpAny_updatePart (s := { s with toks := s.toks + 1 }) D ?_
  refine wpAny_bind (wpAny_lookBehind D' (pastItsLine_dict (by rw [List.size_toArray, sizeLine_eq, hlen]; split <;> omega)) ?_)
  exact wpAny_pure (hq _ _ D' (Heap.SameBut.update ..))
theorem exc_set {s : Shared} {h₀ : Heap} {e : Addr} {n : Nat} {nm : Str} {v : Value} {Q : Unit → Shared → Prop} (X : (K39 w).In s.heap) (x : Exc h₀ e n s.heap) (hnm : findIn (K39 w) (.ref 58) nm = some none) (hn : n ≤ 100)
    (hq : ∀ h' tk, Exc h₀ e (n + 1) h' → (n = 0 → ∀ b o, b ≠ e → s.heap.get? b = some o → h'.get? b = some o) → Q () { s with heap := h', toks := tk }) : wpAny (model prog w) A (setAttr (.ref e) nm v) Q E s := by
  obtain ⟨ox, od, I⟩ := exc_inst x
  have SF := PySem.F.store_object
  refine set_plain X I (by kernel_rfl) ?_
  have sub : Looks (model prog w) s.heap (isInstance (.ref e) (.type "object")) true := I.type.andThen (looks_mroIn X (by kernel_rfl))
  refine codeAny_call_builtin SF.slot.plain SF.entry (@check_slot (model prog w) _ _ { s with toks := s.toks + 1 } "object.__setattr__" "object" "__setattr__" (.ref e) [.str nm s.toks, v] [] _ SF.kind SF.split sub (SF.args (.ref e) (.str nm s.toks) v) ?_)
  obtain ⟨cd, hc, hm0⟩ : ∃ cd, clsIn (K39 w) 58 = some cd ∧ cd.mro = .ref 58 :: .ref 38 :: bmE ∧ cd.hasDict = true := ⟨_, rfl, rfl, rfl⟩
  obtain ⟨hm0, hdict⟩ := hm0
  have hm : Looks (model prog w) s.heap (mroOf (.ref 58)) cd.mro := (looks_clsIn X hc).andThen .now
  rw [osa_eq, refuse_eq]
  refine wpAny_bind (wpAny_bind (I.type _ _ _ _ (fun _ _ e => e) (wpAny_bind (hm _ _ _ _ (fun _ _ e => e) ?_))))
  rw [hm0, refuseLoop_ref, refuseLoop_ref, refuse_bm]
  refine wpAny_pure (wpAny_bind (I.type _ _ _ _ (fun _ _ e => e) (wpAny_bind (looks_findIn X hnm _ _ _ _ (fun _ _ e => e) (wpAny_bind (wpAny_pure ?_))))))
  show wpAny _ _ (Builtin.ObjectAttr.storeInOwnDict (.ref e) (.ref 58) (.str nm s.toks) nm v _) _ _ _
  obtain ⟨x1, x2, oe, vs, t0, a, b, c, d1, f, z⟩ := x
  obtain ⟨oc, odi, oda, osl⟩ := oe
  dsimp only at b c z
  subst b c
  refine wpAny_bind (wpAny_pure (wpAny_bind (wpAny_bind (wpAny_loadPart (s := { s with toks := s.toks + 1 }) a (wpAny_bind (looks_clsIn X hc _ _ _ _ (fun _ _ e => e) ?_))))))
  rw [hdict]
  have ne : ∀ b o, h₀.get? b = some o → b ≠ e := fun b o q r => by rw [r, x2] at q; cases q
  rcases z with z | ⟨dd, es, m, rfl, z2, z3, z4, z5, z6, z7⟩
  · subst z
    refine wpAny_bind (wpAny_alloc ?_)
    have e1 : (s.heap.push { cls := .type "dict", data := .dict #[] }).get? e = some { cls := .ref 58, data := .fields vs, slots := osl } := Heap.get?_push_of_some _ a
    have hde : s.heap.objs.size ≠ e := Nat.ne_of_gt (Heap.lt_size a)
    refine wpAny_bind (wpAny_update e1 (wpAny_bind (wpAny_pure (wpAny_pure ?_))))
    have e2 := Heap.get?_update_self (fun o : Obj => { cls := o.cls, dict := some s.heap.objs.size, data := o.data, slots := o.slots }) e1 rfl
    have oth : ∀ b o, b ≠ e → s.heap.get? b = some o → ((s.heap.push { cls := .type "dict", data := .dict #[] }).update e (fun o : Obj => { cls := o.cls, dict := some s.heap.objs.size, data := o.data, slots := o.slots })).get? b = some o := fun b o q r => by
      rw [Heap.get?_update_other _ _ (Ne.symm q)]; exact Heap.get?_push_of_some _ r
    have d2 : ((s.heap.push { cls := .type "dict", data := .dict #[] }).update e (fun o : Obj => { cls := o.cls, dict := some s.heap.objs.size, data := o.data, slots := o.slots })).get? s.heap.objs.size = some (dictOf [] 0) := by
      rw [Heap.get?_update_other _ _ (Ne.symm hde)]; exact Heap.get?_push_size _ rfl
    have newd : h₀.get? s.heap.objs.size = none := by
      cases q : h₀.get? s.heap.objs.size with
      | none => rfl
      | some o => exact absurd (Heap.lt_size (x1 _ _ q)) (Nat.lt_irrefl _)
    refine ns_store d2 (by rfl) (by simp) fun h' tk hd' hs' => ?_
    have oth2 : ∀ b o, b ≠ e → s.heap.get? b = some o → h'.get? b = some o := fun b o q r => (hs'.2 b fun z => by rw [z] at r; exact absurd (Heap.lt_size r) (Nat.lt_irrefl _)).trans (oth b o q r)
    refine hq h' _ ⟨fun b o q => oth2 b o (ne b o q) (x1 b o q), x2, _, vs, t0, (hs'.2 e (Ne.symm hde)).trans e2, rfl, rfl, d1, f, ?_⟩ fun _ => oth2
    exact .inr ⟨s.heap.objs.size, _, _, rfl, hde, newd, hd', keys_putL (fun x h => by simp at h), by simp [putL], by omega⟩
  · refine wpAny_pure (a := some dd) (ns_store (s := { s with toks := s.toks + 1 }) z4 (by rw [getL_of_keys z5]; rfl) (by omega) fun h' tk hd' hs' => ?_)
    have oth : ∀ b o, b ≠ dd → s.heap.get? b = some o → h'.get? b = some o := fun b o q r => (hs'.2 b q).trans r
    refine hq h' _ ⟨fun b o q => oth b o (fun r => by rw [r, z3] at q; cases q) (x1 b o q), x2, _, vs, t0, oth _ _ (Ne.symm z2) a, rfl, rfl, d1, f, ?_⟩ fun q => by omega
    refine .inr ⟨dd, _, _, rfl, z2, z3, hd', keys_putL z5, ?_, by omega⟩
    rw [len_putL]; split <;> omega
end
end Kp
end
-- part KpExc2
section
set_option autoImplicit false
set_option linter.unusedVariables false
set_option maxRecDepth 100000
set_option Elab.async false
namespace Kp
open PySem PySem.W PyProof.Rows PySem.Calls

section
variable {G : Base} {A : Around} {E : Value → Shared → Prop}
theorem mg_ChessError (B : Own G) : G.mg "ChessError" = some (.ref 38) := B.glob (by kernel_rfl)
theorem mg_BadSquare (B : Own G) : G.mg "BadSquare" = some (.ref 58) := B.glob (by kernel_rfl)
theorem exc_app {h₀ h : Heap} {e : Addr} {n m : Nat} (x : Exc h₀ e n h) (hn : n ≤ m) : Exc h₀ e m h := by
  obtain ⟨x1, x2, oe, vs, t, a, b, c, d, f, z⟩ := x
  refine ⟨x1, x2, oe, vs, t, a, b, c, d, f, ?_⟩
  rcases z with z | ⟨dd, es, m, z1, z2, z3, z4, z5, z6, z7⟩
  · exact .inl z
  · exact .inr ⟨dd, es, m, z1, z2, z3, z4, z5, by omega, by omega⟩
theorem local_name {env : Env} {s : Shared} {x : Str} {pos : Pos} {m : Str → Option Value} {v : Value} {Q : Value → Shared → Prop} (hk : env.scope.kind = .function) (hl : env.scope.names.lookup x = some .local) (hd : (x == ("__debug__" : Str)) = false)
    (ns : s.heap.Ns env.locals m) (e : m x = some v) (q : Q v s) : wpAny G.M A (eval (.Name x pos) env) Q E s :=
  wpAny_Name (wpAny_loadName_local hk hl ns e q) hd

theorem args_nc {env : Env} {s : Shared} {x y : Str} {p p2 pos : Pos} {k : Nat} {f v : Value} {m : Str → Option Value} {Q : Args → Shared → Prop} (hk : env.scope.kind = .function) (hl : env.scope.names.lookup x = some .local) (hd : (x == ("__debug__" : Str)) = false)
    (ns : s.heap.Ns env.locals m) (e : m x = some v) (q : Q ⟨[v, .str y s.toks], []⟩ { s with toks := s.toks + 1 }) : wpAny G.M A (evalArgs f true (backTo pos (starEach [.Name x p, .Constant (.str y) k p2] env)) []) Q E s := by
  show wpAny _ _ (evalArgs f true [(false, eval (.Name x p) env), (false, eval (.Constant (.str y) k p2) env)] []) _ _ _
  exact evalArgs_plain (spliced_cons (local_name hk hl hd ns e (spliced_cons (wpAny_Constant_str (spliced_nil q)))))
theorem gm_exc {s : Shared} {pl : Sem Bool} {Q : Value × List Value → Shared → Prop} (X : (K39 G.w).In s.heap) (h : Q (.builtin "Exception.__init__", []) { s with toks := s.toks + 1 }) : wpAny G.M A (getMethod (.type "Exception") "__init__" pl) Q E s := by
  have hstub : opaqueClassAbove (.type "Exception") = pure none := by unfold opaqueClassAbove; dsimp only; rw [show Manifest.isStub "Exception" = false by decide +kernel]; rfl
  have ht : typeOf (.type "Exception") = pure (.type "type") := by first | rfl | kernel_rfl
  have L0 : Looks G.M s.heap (typeOf (.type "Exception")) (.type "type") := Looks.of_pure ht
  have hg : findIn (K39 G.w) (.type "type") "__getattribute__" = some (some (.builtin "type.__getattribute__")) := type_tga
  unfold getMethod specialOf
  refine wpAny_bind (wpAny_bind (L0.here ((looks_findIn X hg).here ?_)))
  dsimp only
  rw [if_pos canon_tga]
  refine wpAny_bind (wpAny_mono (Q := fun v => Q (v, [])) (E := E) ?_ (fun _ _ z => wpAny_pure z) fun _ _ z => z)
  have LO : Looks G.M s.heap (opaqueClassAbove (.type "Exception")) none := Looks.of_pure hstub
  have e : findCls (K39 G.w) (.type "Exception") (.type "type") "__init__" = some (.val (.builtin "Exception.__init__")) := by kernel_rfl
  refine cls_open X LO L0 hg (looks_hook X (r := none) (by rfl)) (by show subIn _ _ _ = _; rfl) e ?_
  exact wpAny_pure (handed_on (by rfl) h)
theorem gm_cls {s : Shared} {pl : Sem Bool} {Q : Value × List Value → Shared → Prop} (X : (K39 G.w).In s.heap) (h : Q (.ref 35, []) { s with toks := s.toks + 1 }) : wpAny G.M A (getMethod (.ref 38) "__init__" pl) Q E s :=
  method_cls X (by kernel_rfl) (cls_value (mc := .type "type") X (by kernel_rfl) (by kernel_rfl) (by rfl) h)

-- ChessError.__init__(e, v)
theorem init35 (B : Own G) (hmE : G.mg "Exception" = none) (hbE : G.mb "Exception" = bootBuiltins "Exception") {h₀ : Heap} {e : Addr} {s : Shared} {v : Value} {R : Result → Shared → Prop} (hA : A.depth < recursionLimit) (hk0 : ∀ b o, G.h₀.get? b = some o → h₀.get? b = some o)
    (x : Exc h₀ e 0 s.heap)
    (hq : ∀ h' tk, Exc h₀ e 1 h' → (∀ b o, b ≠ e → s.heap.get? b = some o → h'.get? b = some o) → R (.ok (.ret .none)) { s with heap := h', toks := tk }) :
    codeAny G.M A (.call (.ref 35) ⟨[.ref e, v], []⟩) R s := by
  have hk : ∀ b o, G.h₀.get? b = some o → s.heap.get? b = some o := fun b o q => x.keeps _ _ (hk0 b o q)
  refine codeAny_call_def (o := ?o) (fd := ?fd) (body := ?body) (binds := [("self", .ref e), ("text", v)]) hA (hk _ _ (B.at ?hl)) ?hd (G.lim.keeps hk) ?hcd ?hbody ?hbind ?hcell ?hloc (fun h1 hns kp => ?_) ?hco ?hgen ?hkind
  case hl => exact rfl
  case hd => exact rfl
  case hcd => exact Heap.CodeRec.keeps (h := G.h₀) ⟨_, _, _, _, rfl, B.at (by rfl), rfl, rfl⟩ hk
  case hbody => rfl
  case hbind => exact BindsTo.of_eq (by rfl)
  case hcell => decide +kernel
  case hloc => intro x hx; simp only [List.mem_cons, List.not_mem_nil, or_false] at hx; rcases hx with rfl | rfl <;> rfl
  case hco => rfl
  case hgen => rfl
  case hkind => rfl
  have kp' : ∀ b o, G.h₀.get? b = some o → h1.get? b = some o := fun b o q => kp _ _ (hk b o q)
  have X1 : (K39 G.w).In h1 := fun b o q => kp' _ _ (G.X _ _ (by rw [B.K]; exact q))
  have x1 := x.grow kp
  refine wpAny_execs_cons (wpAny_Expr_any (methodCall_KW (pl := _) (Name_function_global (by rfl) (by rfl) (loadGlobal_builtin (G.g.keeps kp') hmE (G.b.keeps kp') (hbE.trans (by decide +kernel : bootBuiltins "Exception" = some (.type "Exception"))) ?_)) (by rfl)))
  refine gm_exc (s := { heap := h1, gens := s.gens, drawn := s.drawn, toks := s.toks + 2, os := s.os }) X1 (callWith_builtin (by rfl) (evalArgs_plain ?_))
  refine spliced_cons (local_name (by rfl) (by rfl) (by decide) hns rfl (spliced_cons (local_name (by rfl) (by rfl) (by decide) hns rfl (spliced_nil ?_))))
  refine exc_init X1 x1 fun h2 x2 o2 => ?_
  have ne : s.heap.objs.size ≠ e := by
    obtain ⟨_, _, oe, vs, t, a, _⟩ := x
    exact Nat.ne_of_gt (Heap.lt_size a)
  have hns2 : h2.Ns s.heap.objs.size fun x => List.lookup x [(Str.ofString "self", Value.ref e), (Str.ofString "text", v)].reverse := by
    obtain ⟨o, es, ep, ho, z⟩ := hns
    exact ⟨o, es, ep, o2 _ _ ne ho, z⟩
  have X2 : (K39 G.w).In h2 := fun b o q => x2.keeps _ _ (hk0 _ _ (G.X _ _ (by rw [B.K]; exact q)))
  refine wpAny_execs_cons (plainObj_wpAny_Assign_Attribute (local_name (by rfl) (by rfl) (by decide) hns2 rfl (local_name (by rfl) (by rfl) (by decide) hns2 rfl ?_)))
  refine exc_set X2 x2 (by kernel_rfl) (by omega) fun h3 tk x3 o3 => wpAny_execs_nil ?_
  exact hq h3 tk x3 fun b o q r => o3 rfl b o q (o2 b o q (kp b o r))

-- BadSquare.__init__(e, v)
theorem init55 (B : Own G) (hmE : G.mg "Exception" = none) (hbE : G.mb "Exception" = bootBuiltins "Exception") {h₀ : Heap} {e : Addr} {s : Shared} {v : Value} {R : Result → Shared → Prop} (hA : A.depth + 1 < recursionLimit) (hk0 : ∀ b o, G.h₀.get? b = some o → h₀.get? b = some o)
    (x : Exc h₀ e 0 s.heap)
    (hq : ∀ h' tk, Exc h₀ e 2 h' → R (.ok (.ret .none)) { s with heap := h', toks := tk }) :
    codeAny G.M A (.call (.ref 55) ⟨[.ref e, v], []⟩) R s := by
  have hk : ∀ b o, G.h₀.get? b = some o → s.heap.get? b = some o := fun b o q => x.keeps _ _ (hk0 b o q)
  refine codeAny_call_def (o := ?o) (fd := ?fd) (body := ?body) (binds := [("self", .ref e), ("square", v)]) (by omega) (hk _ _ (B.at ?hl)) ?hd (G.lim.keeps hk) ?hcd ?hbody ?hbind ?hcell ?hloc (fun h1 hns kp => ?_) ?hco ?hgen ?hkind
  case hl => exact rfl
  case hd => exact rfl
  case hcd => exact Heap.CodeRec.keeps (h := G.h₀) ⟨_, _, _, _, rfl, B.at (by rfl), rfl, rfl⟩ hk
  case hbody => rfl
  case hbind => exact BindsTo.of_eq (by rfl)
  case hcell => decide +kernel
  case hloc => intro x hx; simp only [List.mem_cons, List.not_mem_nil, or_false] at hx; rcases hx with rfl | rfl <;> rfl
  case hco => rfl
  case hgen => rfl
  case hkind => rfl
  have kp' : ∀ b o, G.h₀.get? b = some o → h1.get? b = some o := fun b o q => kp _ _ (hk b o q)
  have X1 : (K39 G.w).In h1 := fun b o q => kp' _ _ (G.X _ _ (by rw [B.K]; exact q))
  have x1 := x.grow kp
  refine wpAny_execs_cons (wpAny_Expr_any (methodCall_KW (pl := _) (Name_function_global (by rfl) (by rfl) (loadGlobal_global (G.g.keeps kp') (mg_ChessError B) ?_)) (by rfl)))
  refine gm_cls (s := { heap := h1, gens := s.gens, drawn := s.drawn, toks := s.toks + 2, os := s.os }) X1 (callWith_function (o := ?o2) (fd := ?fd2) ?main)
  case main =>
  refine args_nc (by rfl) (by rfl) (by decide) hns rfl ⟨⟨kp' _ _ (B.at ?ho), ?hd2⟩, ?_⟩
  case ho => exact rfl
  case hd2 => exact rfl
  refine wpAny_call (init35 (s := { heap := h1, gens := s.gens, drawn := s.drawn, toks := s.toks + 4, os := s.os }) B hmE hbE (by show A.depth + 1 < _; omega) hk0 x1 fun h2 tk x2 o2 => ?_)
  have ne : s.heap.objs.size ≠ e := by
    obtain ⟨_, _, oe, vs, t, a, _⟩ := x
    exact Nat.ne_of_gt (Heap.lt_size a)
  have hns2 : h2.Ns s.heap.objs.size fun x => List.lookup x [(Str.ofString "self", Value.ref e), (Str.ofString "square", v)].reverse := by
    obtain ⟨o, es, ep, ho, z⟩ := hns
    exact ⟨o, es, ep, o2 _ _ ne ho, z⟩
  have X2 : (K39 G.w).In h2 := fun b o q => x2.keeps _ _ (hk0 _ _ (G.X _ _ (by rw [B.K]; exact q)))
  refine wpAny_execs_cons (plainObj_wpAny_Assign_Attribute (local_name (by rfl) (by rfl) (by decide) hns2 rfl (local_name (by rfl) (by rfl) (by decide) hns2 rfl ?_)))
  refine exc_set X2 x2 (by kernel_rfl) (by omega) fun h3 tk x3 o3 => wpAny_execs_nil ?_
  exact hq h3 tk x3

-- the class called
theorem call58 (B : Own G) (hmE : G.mg "Exception" = none) (hbE : G.mb "Exception" = bootBuiltins "Exception") {s : Shared} {v : Value} {Q : Value → Shared → Prop} (hA : A.depth + 2 < recursionLimit) (hk0 : ∀ b o, G.h₀.get? b = some o → s.heap.get? b = some o)
    (hq : ∀ h' e tk, Exc s.heap e 2 h' → Q (.ref e) { s with heap := h', toks := tk }) :
    wpAny G.M A (call (.ref 58) [v]) Q E s := by
  have X : (K39 G.w).In s.heap := fun b o q => hk0 _ _ (G.X _ _ (by rw [B.K]; exact q))
  obtain ⟨nm, q, N, bs, hdct, sn, sub, ab, col, dd, k0, k1, k2, k3, k5, hl⟩ := cls58 G.w
  have hC := X _ _ hl
  have f1 := tc_lookup
  have f2 := tc_bind (.ref 58)
  obtain ⟨h, g, d, t, os⟩ := s
  have hT : (⟨h, g, d, t, os⟩ : Shared).TypeIs (.ref 58) "type" := ⟨_, hC, rfl⟩
  dsimp only at hC X hk0
  refine wpAny_call (codeAny_of_tree ?_)
  show wpAny _ _ (callAny (.ref 58) _) _ _ _
  repeat (any_goals (first | assumption | with_reducible refine wpAny_loadPart_at hC ?_ | wp_step))
  refine ⟨rfl, ?_⟩
  refine codeAny_call_builtin_at (Code.quiet_builtin _ (by decide +kernel)) entry_typeCall (wpAny_check_type_call_sub hC ?_)
  repeat (first | with_reducible refine wpAny_loadPart_at hC ?_ | with_reducible refine wpAny_madeBy_exc hC ?_ | wp_step)
  refine codeAny_call_builtin_code (Code.quiet_builtin _ FE.quiet) (check_new (by decide) hC ?_)
  refine exc_new (by decide) (by decide) (by decide) hC ?_ (by simp [sizeLine_eq])
  show wpAny _ _ _ _ _ ⟨((h.push { cls := .type "tuple", data := .seq [v].toArray }).push { cls := .ref 58, data := .fields #[.ref h.objs.size, .none, .none, .none, .bool false, .none] }), g, d, t, os⟩
  have k1 : ∀ b o, h.get? b = some o → ((h.push { cls := .type "tuple", data := .seq [v].toArray }).push { cls := .ref 58, data := .fields #[.ref h.objs.size, .none, .none, .none, .bool false, .none] }).get? b = some o :=
    fun b o e => Heap.get?_push_of_some _ (Heap.get?_push_of_some _ e)
  have hC₁ := k1 _ _ hC
  have hget : ((h.push { cls := .type "tuple", data := .seq [v].toArray }).push
      { cls := .ref 58, data := .fields #[.ref h.objs.size, .none, .none, .none, .bool false, .none] }).get? (h.objs.size + 1) = some
      { cls := .ref 58, data := .fields #[.ref h.objs.size, .none, .none, .none, .bool false, .none] } := by heap_get
  have hcC : (Value.ref 58 :: bm58).contains (.ref 58) = true := by simp
  have X1 : (K39 G.w).In ((h.push { cls := .type "tuple", data := .seq [v].toArray }).push { cls := .ref 58, data := .fields #[.ref h.objs.size, .none, .none, .none, .bool false, .none] }) := fun b o q => k1 _ _ (X b o q)
  unfold isInstance
  repeat (first | with_reducible refine wpAny_loadPart_at hget ?_ | (with_reducible refine wpAny_isSubtype_exc hC₁ ?_; rw [hcC]) | wp_step)
  show wpAny _ _ (typeLookup (.ref 58) _) _ _ _
  refine looks_findIn X1 (r := some (.ref 55)) (by kernel_rfl) _ _ _ _ (fun _ _ e => e) ?_
  refine wpAny_holding (wpAny_bind ((bind_fn X1 (.ref (h.objs.size + 1)) (by kernel_rfl)).here (wpAny_bind (wpAny_call ?_))))
  have x0 : Exc h (h.objs.size + 1) 0 ((h.push { cls := .type "tuple", data := .seq [v].toArray }).push { cls := .ref 58, data := .fields #[.ref h.objs.size, .none, .none, .none, .bool false, .none] }) :=
    ⟨k1, Heap.get?_none_of_le (Nat.le_succ _), _, _, _, hget, rfl, rfl, rfl, rfl, .inl rfl⟩
  refine init55 (s := ⟨((h.push { cls := .type "tuple", data := .seq [v].toArray }).push { cls := .ref 58, data := .fields #[.ref h.objs.size, .none, .none, .none, .bool false, .none] }), g, d, t, os⟩) B hmE hbE (by show A.depth + 1 + 1 < _; omega) hk0 x0 fun h' tk x' => ?_
  refine wpAny_pure (wpAny_pure ?_)
  exact hq h' _ tk x'
end
end Kp
end
-- part KpX
section
set_option autoImplicit false
set_option linter.unusedVariables false
set_option maxRecDepth 100000
set_option Elab.async false
namespace Kp
open PySem PySem.W PyProof.Rows PySem.Calls

-- an exception on its way through the frame of l's head
def XAt (base : Heap) (l : List Env) (L ea : Addr) (h : Heap) : Prop := base.StaysIn h ∧ base.get? ea = none ∧ h.FunFrames base l ∧
  ((∃ oe vs t, h.get? ea = some oe ∧ oe.cls = .ref 58 ∧ oe.data = .fields vs ∧ vs[1]? = some .none ∧ vs[0]? = some (.ref t)) ∨ (∃ a0, h.TracedAtW base ea (.ref 58) a0 (rawInt L)) ∨ ∃ a0, h.TracedW base ea (.ref 58) a0)

section
variable {M : Model} {A : Around} {E : Value → Shared → Prop} {s : Shared} {base : Heap} {env : Env} {outer : List Env} {L ea : Addr}
theorem XAt.leave {Q : Unit → Shared → Prop} (hfr : A.frames = some (env :: outer)) (hf : env.frame = some L) (x : XAt base (env :: outer) L ea s.heap)
    (hq : ∀ h' a0, Heap.FlyingW base outer ea (.ref 58) a0 h' → s.heap.UpToSlots h' → Q () { s with heap := h' }) : wpAny M A (leaving env (.ref ea)) Q E s := by
  obtain ⟨x1, x2, x3, ⟨oe, vs, t, a, b, c, d, f⟩ | ⟨a0, x⟩ | ⟨a0, x⟩⟩ := x
  · refine wpAny_leaving_firstW hfr x3 hf a x1 x2 c d f fun h' hL => ?_
    rw [b] at hL
    obtain ⟨k1, ⟨_, _, k2⟩, k3, k4⟩ := hL
    exact hq h' _ ⟨k1, x2, k2, k3⟩ k4
  · unfold leaving
    refine wpAny_bind (wpAny_noteFrame_againW hf x ?_)
    refine wpAny_landsW ⟨x1, x2, x3, x⟩ fun h' hfl U => ?_
    obtain ⟨k1, k2, ⟨_, _, k3⟩, k4⟩ := hfl
    exact hq h' _ ⟨k1, k2, k3, k4⟩ U
  · exact wpAny_leaves_onW hfr hf ⟨x1, x2, x3, x⟩ fun h' k U => hq h' _ k U
theorem XAt.note {Q : Unit → Shared → Prop} (hfr : A.frames = some (env :: outer)) (hf : env.frame = some L) (x : XAt base (env :: outer) L ea s.heap)
    (hq : ∀ h' a0, Heap.HeldW base (env :: outer) ea (.ref 58) a0 L h' → s.heap.UpToSlots h' → Q () { s with heap := h' }) : wpAny M A (noteFrame (.ref ea) env) Q E s := by
  obtain ⟨x1, x2, x3, ⟨oe, vs, t, a, b, c, d, f⟩ | ⟨a0, x⟩ | ⟨a0, x⟩⟩ := x
  · unfold noteFrame
    simp only [hf]
    refine wpAny_bind (wpAny_field a c d ?_)
    rw [if_neg (by decide)]
    refine wpAny_entryW hfr x3 hf a x1 x2 c (Array.getElem?_eq_some_iff.mp d).1 f fun h' hL => ?_
    rw [b] at hL
    obtain ⟨k1, k2, k3, k4⟩ := hL
    exact hq h' _ ⟨k1, x2, k2, k3⟩ k4
  · exact wpAny_noteFrame_againW hf x (hq s.heap a0 ⟨x1, x2, x3, x⟩ (.refl _))
  · exact wpAny_looks_onW hfr hf ⟨x1, x2, x3, x⟩ fun h' k U => hq h' _ k U
-- the flight is set anew
theorem flight_any {cls a0 fl : Value} {fr : Option Addr} {Q : Unit → Shared → Prop} (hkb : base.StaysIn s.heap) (hl : s.heap.FunFrames base outer) (ht : s.heap.TracedAtW base ea cls a0 fl)
    (h : ∀ h', base.StaysIn h' → h'.FunFrames base outer → h'.TracedAtW base ea cls a0 (fr.elim Value.none fun f => rawInt f) → s.heap.UpToSlots h' → Q () { s with heap := h' }) :
    wpAny M A (setFlight (.ref ea) fr) Q E s := by
  obtain ⟨oe, vs, T, oT, ts, he, hcls, hd, h1, hnT, hTe, hT, hdT, h3⟩ := ht
  have hsz3 : 3 < ts.size := (Array.getElem?_eq_some_iff.mp h3).1
  have other : ∀ b, b ≠ T → (s.heap.update T (Obj.mapFields (·.setIfInBounds 3 (fr.elim Value.none fun f => rawInt f)))).get? b = s.heap.get? b :=
    fun b hb => Heap.get?_update_other _ _ (Ne.symm hb)
  have noRecord : ∀ b o, s.heap.get? b = some o → (∀ vs, o.data ≠ .fields vs) → b ≠ T := fun b o hb hnf q => by
    rw [q, hT] at hb; injection hb with hb; subst hb; exact hnf ts hdT
  unfold setFlight
  refine wpAny_bind (wpAny_field he hd h1 ?_)
  rw [if_pos (show (Value.ref T != Value.none) = true from by simp)]
  refine wpAny_setField hT hdT hsz3 (h _ (fun b o hbo => (other b fun q => by rw [q, hnT] at hbo; cases hbo).trans (hkb b o hbo))
    (hl.of_keeps fun b o hb hnf => ⟨o, (other b (noRecord b o hb hnf)).trans hb, rfl⟩) ?_ fun b o hb hnf => ⟨o.slots, (other b (noRecord b o hb hnf)).trans hb⟩)
  exact ⟨oe, vs, T, _, _, (other ea (Ne.symm hTe)).trans he, hcls, hd, h1, hnT, hTe, Heap.get?_update_self _ hT (Obj.isFreed_of_fields (Obj.data_mapFields hdT _)), Obj.data_mapFields hdT _, by simp [hsz3]⟩
-- back in the frame that the loop stands in
theorem XAt.back {a0 : Value} (hf : env.frame = some L) (x : Heap.HeldW base (env :: outer) ea (.ref 58) a0 L s.heap) (hq : ∀ h', XAt base (env :: outer) L ea h' → s.heap.UpToSlots h' → E (.ref ea) { s with heap := h' }) : cameBackBy M A env E (.ref ea) s := by
  obtain ⟨x1, x2, x3, x4⟩ := x
  have x4' := x4
  obtain ⟨oe, vs, T, oT, ts, he, hcls, hd, h1, hnT, hTe, hT, hdT, h3⟩ := x4'
  unfold cameBackBy
  refine wpAny_bind (wpAny_field he hd h1 ?_)
  rw [if_neg (by simp), hf]
  exact flight_any x1 x3 x4 fun h' k1 k2 k3 k4 => hq h' ⟨k1, x2, k2, .inr (.inl ⟨a0, k3⟩)⟩ k4
end

-- the frames behind
def FrsAt (base : Heap) (φ : Phi) (h : Heap) (outer : List Env) : Prop :=
  ∀ env ∈ outer, env.scope.kind ≠ .module ∧ ∃ L o es n, env.frame = some L ∧ base.get? L = none ∧ h.get? L = some o ∧ o.data = .dict es n ∧ ∀ p ∈ φ, p.2 ≠ L
def Apart (L : Addr) (outer : List Env) : Prop := ∀ env ∈ outer, env.frame ≠ some L
-- the frames behind keep what they hold
def KeepF (l : List Env) (h h' : Heap) : Prop := ∀ env ∈ l, ∀ L o, env.frame = some L → h.get? L = some o → (∀ vs, o.data ≠ .fields vs) → ∃ sl, h'.get? L = some { o with slots := sl }
theorem KeepF.up {l : List Env} {h h' h'' : Heap} (x : KeepF l h h') (y : h'.UpToSlots h'') : KeepF l h h'' := fun env he L o a b c => by
  obtain ⟨sl, d⟩ := x env he L o a b c
  obtain ⟨sl', e⟩ := y _ _ d c
  exact ⟨sl', e⟩
theorem KeepF.grow {l : List Env} {h h' h'' : Heap} (y : ∀ b o, h.get? b = some o → h'.get? b = some o) (x : KeepF l h' h'') : KeepF l h h'' := fun env he L o a b c => x env he L o a (y _ _ b) c
theorem FrsAt.fun {base : Heap} {φ : Phi} {h : Heap} : ∀ {outer : List Env}, FrsAt base φ h outer → h.FunFrames base outer
  | [], _ => trivial
  | env :: r, x => by
    obtain ⟨a, L, o, es, n, b, c, d, e, f⟩ := x env (.head _)
    exact ⟨a, ⟨L, o, b, c, d, fun vs q => by rw [e] at q; cases q⟩, FrsAt.fun fun y hy => x y (.tail _ hy)⟩
section
variable {G : Base} {f : Fx} {n : Nat} {base : Heap} {outer : List Env}
theorem FrsAt.stepL {φ φ' : Phi} {s s' : Shared} {L : Addr} (x : FrsAt base φ s.heap outer) (ap : Apart L outer) (y : StepL L φ φ' s s') : FrsAt base φ' s'.heap outer := by
  intro env he
  obtain ⟨a, L', o, es, m, b, c, d, e, g⟩ := x env he
  refine ⟨a, L', o, es, m, b, c, y.ev _ _ d g (fun q => ap env he (by rw [b, q])), e, fun p hp q => ?_⟩
  rcases y.fresh p hp with h | h
  · exact g p h q
  · rw [q, d] at h; cases h
theorem FrsAt.step {φ φ' : Phi} {s s' : Shared} (x : FrsAt base φ s.heap outer) (y : Step φ φ' s s') : FrsAt base φ' s'.heap outer := by
  intro env he
  obtain ⟨a, L', o, es, m, b, c, d, e, g⟩ := x env he
  refine ⟨a, L', o, es, m, b, c, y.ev _ _ d g, e, fun p hp q => ?_⟩
  rcases y.fresh p hp with h | h
  · exact g p h q
  · rw [q, d] at h; cases h
theorem FrsAt.grow {φ : Phi} {h h' : Heap} (x : FrsAt base φ h outer) (k : ∀ b o, h.get? b = some o → h'.get? b = some o) : FrsAt base φ h' outer := by
  intro env he
  obtain ⟨a, L', o, es, m, b, c, d, e, g⟩ := x env he
  exact ⟨a, L', o, es, m, b, c, k _ _ d, e, g⟩
theorem FrsAt.push {φ : Phi} {η : H} {L : Addr} {loc : Loc} {s : Shared} (hb : ∀ b o, base.get? b = some o → G.fz b o) (ok : f.Ok) (x : FrsAt base φ s.heap outer) (S : SR G f φ η L loc s) : FrsAt base φ s.heap (f.env L :: outer) := by
  intro env he
  rcases List.mem_cons.mp he with rfl | he
  · obtain ⟨o, es, ep, ho, hd⟩ := S.alive
    refine ⟨by show f.cs.kind ≠ _; rw [ok.kind]; decide, L, o, es, ep, rfl, ?_, ho, hd, S.out⟩
    cases q : base.get? L with
    | none => rfl
    | some o => exact absurd (hb _ _ q) (S.outF o)
  · exact x env he

theorem FrsAt.keepL {φ φ' : Phi} {s s' : Shared} {L : Addr} {h'' : Heap} (x : FrsAt base φ s.heap outer) (ap : Apart L outer) (y : StepL L φ φ' s s') (z : KeepF outer s'.heap h'') : KeepF outer s.heap h'' := by
  intro env he L' o a b c
  obtain ⟨_, L2, o2, _, _, b2, _, _, _, g⟩ := x env he
  obtain rfl : L' = L2 := Option.some.inj (a.symm.trans b2)
  exact z env he L' o a (y.ev _ _ b g fun q => ap env he (by rw [a, q])) c
theorem FrsAt.keep {φ φ' : Phi} {s s' : Shared} {h'' : Heap} (x : FrsAt base φ s.heap outer) (y : Step φ φ' s s') (z : KeepF outer s'.heap h'') : KeepF outer s.heap h'' := by
  intro env he L' o a b c
  obtain ⟨_, L2, o2, _, _, b2, _, _, _, g⟩ := x env he
  obtain rfl : L' = L2 := Option.some.inj (a.symm.trans b2)
  exact z env he L' o a (y.ev _ _ b g) c
-- what a raising statement comes to
def RX (G : Base) (base : Heap) (l : List Env) (L : Addr) (kx : Bool) (s : Shared) (e : Value) (s' : Shared) : Prop :=
  kx = true ∧ ∃ ea, e = .ref ea ∧ XAt base l L ea s'.heap ∧ s'.gens = s.gens ∧ s'.drawn = s.drawn ∧ s'.os = s.os ∧ KeepF l.tail s.heap s'.heap
def SSX (base : Heap) (outer : List Env) (kx : Bool) (G : Base) (f : Fx) (n : Nat) (m : XS) (st : Stmt) : Prop :=
  ∀ A L φ η loc s kn kr kb kc, Room A n → A.frames = some (f.env L :: outer) → FrsAt base φ s.heap outer → Apart L outer → SR G f φ η L loc s → m loc η kn kr kb kc = true →
    wpAny G.M A (exec st (f.env L)) (PostS G f L φ s kn kr kb kc) (RX G base (f.env L :: outer) L kx s) s
def BSX (base : Heap) (outer : List Env) (kx : Bool) (G : Base) (f : Fx) (n : Nat) (m : XS) (sts : List Stmt) : Prop :=
  ∀ A L φ η loc s kn kr kb kc, Room A n → A.frames = some (f.env L :: outer) → FrsAt base φ s.heap outer → Apart L outer → SR G f φ η L loc s → m loc η kn kr kb kc = true →
    wpAny G.M A (execs sts (f.env L)) (PostS G f L φ s kn kr kb kc) (RX G base (f.env L :: outer) L kx s) s
variable {kx : Bool}
theorem SSX.of {m : XS} {st : Stmt} (x : SS G f n m st) : SSX base outer kx G f n m st := fun A L φ η loc s kn kr kb kc hA _ _ _ S h => wpAny_mono (x A L φ η loc s kn kr kb kc hA S h) (fun _ _ z => z) fun _ _ z => z.elim
theorem BSX.of {m : XS} {sts : List Stmt} (x : BS G f n m sts) : BSX base outer kx G f n m sts := fun A L φ η loc s kn kr kb kc hA _ _ _ S h => wpAny_mono (x A L φ η loc s kn kr kb kc hA S h) (fun _ _ z => z) fun _ _ z => z.elim
theorem RX.from {env : Env} {L : Addr} {φ φ' : Phi} {s s' s'' : Shared} {e : Value} (r : RX G base (env :: outer) L kx s' e s'') (x : StepL L φ φ' s s') (hF : FrsAt base φ s.heap outer) (ap : Apart L outer) : RX G base (env :: outer) L kx s e s'' := by
  obtain ⟨a, ea, b, c, d, e', g, k⟩ := r
  exact ⟨a, ea, b, c, d.trans x.gens, e'.trans x.drawn, g.trans x.os, hF.keepL ap x k⟩
theorem bsx_cons {m₁ m₂ : XS} {st : Stmt} {r : List Stmt} (h₁ : SSX base outer kx G f n m₁ st) (h₂ : BSX base outer kx G f n m₂ r) : BSX base outer kx G f n (sseq m₁ m₂) (st :: r) := by
  intro A L φ η loc s kn kr kb kc hA hfr hF ap S h
  refine wpAny_execs_cons (wpAny_mono (h₁ A L φ η loc s _ kr kb kc hA hfr hF ap S h) (fun fl s' x => ?_) fun _ _ z => z)
  obtain ⟨φ', η', st1, y⟩ := x
  cases fl with
  | next =>
    obtain ⟨loc', S', k⟩ := y
    exact wpAny_mono (h₂ A L φ' η' loc' s' kn kr kb kc hA hfr (hF.stepL ap st1) ap S' k) (fun fl s'' z => PostS.from st1 S S' z) fun _ _ z => z.from st1 hF ap
  | ret u => exact ⟨φ', η', st1, y⟩
  | brk => exact ⟨φ', η', st1, y⟩
  | cont => exact ⟨φ', η', st1, y⟩
theorem bsx_one {m : XS} {st : Stmt} (h₁ : SSX base outer kx G f n m st) : BSX base outer kx G f n m [st] := by
  intro A L φ η loc s kn kr kb kc hA hfr hF ap S h
  refine wpAny_execs_cons (wpAny_mono (h₁ A L φ η loc s kn kr kb kc hA hfr hF ap S h) (fun fl s' x => ?_) fun _ _ z => z)
  cases fl with
  | next => exact wpAny_execs_nil x
  | ret u => exact x
  | brk => exact x
  | cont => exact x
theorem ssx_if {c : XE} {a b : XS} {e : Expr} {body orelse : List Stmt} {pos : Pos} (h₁ : TS G f n c e) (h₂ : BSX base outer kx G f n a body) (h₃ : BSX base outer kx G f n b orelse) : SSX base outer kx G f n (sif c a b) (.If e body orelse pos) := by
  intro A L φ η loc s kn kr kb kc hA hfr hF ap S h
  refine wpAny_If (wpAny_mono (h₁ A L φ η loc s (fun t h => bcase t (a loc h kn kr kb kc) (b loc h kn kr kb kc)) hA S h) (fun t s1 x => ?_) fun _ _ z => z.elim)
  obtain ⟨η1, φ1, k, st, r1⟩ := x
  have S1 := S.step st r1
  cases t with
  | true => exact wpAny_mono (h₂ A L φ1 η1 loc s1 kn kr kb kc hA hfr (hF.step st) ap S1 k) (fun fl s'' z => PostS.from st.l S S1 z) fun _ _ z => z.from st.l hF ap
  | false => exact wpAny_mono (h₃ A L φ1 η1 loc s1 kn kr kb kc hA hfr (hF.step st) ap S1 k) (fun fl s'' z => PostS.from st.l S S1 z) fun _ _ z => z.from st.l hF ap

theorem raise_made {A : Around} {E : Value → Shared → Prop} {env : Env} {s : Shared} {x : Sem Value} {nm q : Str} {N : Addr} {bs : List Value} {hdct : Bool} {sn : List Str} {sub : List Value} {ab : Bool} {col : Option Bool} {dd : Option Addr} {k0 k1 k2 k3 k5 : Option Value} {Q : Flow → Shared → Prop} (hh : A.handled = none)
    (h : wpAny G.M A x (fun v s₁ => ∃ e d vs sl, v = .ref e ∧ s₁.heap.get? 58 = some (excClassObj nm q 58 N bs bm58 hdct sn sub ab col dd k0 k1 k2 k3 k5 "Exception.__new__") ∧
      s₁.heap.get? e = some ⟨.ref 58, d, .fields vs, sl⟩ ∧ vs[1]? = some .none ∧ E (.ref e) s₁) E s) :
    wpAny G.M A (raiseStmt env (some x) none) Q E s := by
  have hcB : (Value.ref 58 :: bm58).contains (.type "BaseException") = true := by decide
  unfold raiseStmt
  refine wpAny_bind (wpAny_mono h (fun v s₁ h₁ => ?_) fun _ _ x => x)
  obtain ⟨e, dt, vs, sl, rfl, hC, he, hv1, hE⟩ := h₁
  obtain ⟨hp, g, d, tk, os⟩ := s₁
  dsimp only at hC he
  repeat (first | with_reducible refine wpAny_loadPart_at he ?_ | with_reducible refine wpAny_loadPart_at hC ?_ | (with_reducible refine wpAny_isSubtype_exc hC ?_; rw [hcB]) | (refine wpAny_bind (wpAny_field he rfl hv1 ?_)) | wp_step)
  exact wpAny_raiseNew_none hh hE
-- raise BadSquare(e)
theorem ssx_raise (B : Own G) (hmE : G.mg "Exception" = none) (hbE : G.mb "Exception" = bootBuiltins "Exception") (hb : ∀ b o, base.get? b = some o → G.fz b o) (ok : f.Ok) {m : XE} {e : Expr} {np cpos pos : Pos}
    (hx : f.cs.names.lookup ("BadSquare" : Str) = some .globalImplicit) (h₁ : ES G f (n + 2) m e) (he : ∀ env, starEach [e] env = [(false, eval e env)] := by intro _; rfl) :
    SSX base outer kx G f (n + 2) (sraiseX kx m) (.Raise (some (.Call (.Name "BadSquare" np) [e] [] cpos)) none pos) := by
  intro A L φ η loc s kn kr kb kc hA hfr hF ap S h
  obtain ⟨nm, q, N, bs, hdct, sn, sub, ab, col, dd, k0, k1, k2, k3, k5, hl⟩ := cls58 G.w
  rw [arm_exec_Raise]
  refine wpAny_bind (wpAny_standAt (raise_made hA.handled (wpAny_bind (wpAny_mono (Q := fun v s₁ => ∃ e d vs sl, v = .ref e ∧ s₁.heap.get? 58 = some (excClassObj nm q 58 N bs bm58 hdct sn sub ab col dd k0 k1 k2 k3 k5 "Exception.__new__") ∧
      s₁.heap.get? e = some ⟨.ref 58, d, .fields vs, sl⟩ ∧ vs[1]? = some .none ∧ RX G base (f.env L :: outer) L kx s (.ref e) s₁) ?_ (fun v s₃ h₃ => wpAny_bind (wpAny_standAt (wpAny_pure h₃))) fun _ _ x => x))))
  refine wpAny_Call_NameR (Name_function_global (env := f.env L) ok.kind hx (loadGlobal_global (env := f.env L) (G.g.keeps S.hr.keep) (mg_BadSquare B) ?_) (by decide))
  refine callWith_K (h₀ := G.h₀) G.X (by rw [B.K]; kernel_rfl) (he := he _) (hplain := by rfl) ?_
  have h' : (econs m enil) loc η (fun vs _ => match vs with | [v] => asInt v (fun _ => kx) | _ => false) = true := h
  refine wpAny_mono ((ls_cons h₁ ls_nil (he := he)) cpos A L φ η loc s _ hA S h') (fun us s' y => ?_) fun _ _ z => z.elim
  obtain ⟨vs, ζ, ψ, b, c, d, e'⟩ := y
  have S' := S.step d e'
  have X' : G.K.In s'.heap := fun b o q => e'.keep b o (G.X b o q)
  refine ⟨X', ?_⟩
  rcases vs with _ | ⟨v, _ | ⟨_, _⟩⟩ <;> first | cases b | skip
  have b : asInt v (fun _ => kx) = true := b
  obtain ⟨i, rfl, hkx⟩ := asInt_of b
  obtain ⟨u, r, rfl, hu, hr⟩ := c
  obtain rfl : r = [] := hr
  refine call58 B hmE hbE (by have := hA.depth; omega) e'.keep fun h2 ea tk x => ?_
  have X2 : (K39 G.w).In h2 := fun b o q => x.keeps _ _ (e'.keep _ _ (G.X _ _ (by rw [B.K]; exact q)))
  have hl2 := X2 _ _ hl
  obtain ⟨x1, x2, ⟨oc, odd, oda, osl⟩, ws, t, a1, a2, a3, a4, a5, a6⟩ := x
  dsimp only at a2 a3
  subst a2 a3
  refine ⟨ea, _, ws, _, rfl, hl2, a1, a4, hkx, ea, rfl, ?_, d.gens, d.drawn, d.os, hF.keep d fun env he L o _ b _ => ⟨o.slots, x1 _ _ b⟩⟩
  have F' := (hF.step d).push hb ok S'
  refine ⟨fun b o q => x1 _ _ (e'.frz _ _ (hb _ _ q)), ?_, (F'.grow x1).fun, .inl ⟨_, ws, t, a1, rfl, rfl, a4, a5⟩⟩
  cases q : base.get? ea with
  | none => rfl
  | some o => rw [e'.frz _ _ (hb _ _ q)] at x2; cases x2
theorem for_coreX {A : Around} {L it : Addr} {kn : KN} {kr : KR} {kb kc : KN} {tgt : Tgt} {target : Expr} {a : XS} {body : List Stmt} {P : Nat → Phi → Heap → Prop} {M : Nat → KN} {R : Result → Shared → Prop}
    (I : It G f A L it kn kr tgt a P M) (T : TgtOk G f tgt target) (hb : BSX base outer kx G f n a body) (hA : Room A n) {φ φ1 : Phi} {η η1 : H} {loc : Loc} {s₀ s1 : Shared} {k : Nat} (S₀ : SR G f φ η L loc s₀)
    (y : StepL L φ φ1 s₀ s1) (S1 : SR G f φ1 η1 L loc s1) (hP : P k φ1 s1.heap) (ht : ∀ p ∈ φ1, p.2 ≠ it) (hl : it ≠ L) (h0 : G.h₀.objs.size ≤ it) (hn : s₀.heap.get? it = none) (hm : M k loc η1 = true)
    (hfr : A.frames = some (f.env L :: outer)) (hF : FrsAt base φ s₀.heap outer) (ap : Apart L outer)
    (hR : ∀ fl s', PostS G f L φ s₀ kn kr kb kc fl s' → R (.ok fl) s')
    (hX : ∀ ea (s' : Shared) h' a0, Heap.HeldW base (f.env L :: outer) ea (.ref 58) a0 L h' → kx = true → s'.gens = s₀.gens → s'.drawn = s₀.drawn → s'.os = s₀.os → KeepF outer s₀.heap h' → R (.error (.ref ea)) { s' with heap := h' }) :
    codeAny G.M A (.forLoop target (.ref it) body [] (f.env L)) R s1 := by
  have hFz : ∀ o, ¬ G.fz it o := fun o e => by have := S₀.hr.frz _ _ e; rw [hn] at this; cases this
  refine codeAny_forLoop_any (fun k s' => ∃ φ' η' loc', StepL L φ φ' s₀ s' ∧ SR G f φ' η' L loc' s' ∧ P k φ' s'.heap ∧ (∀ p ∈ φ', p.2 ≠ it) ∧ M k loc' η' = true) ?_ k ⟨φ1, η1, loc, y, S1, hP, ht, hm⟩
  rintro k s' ⟨φ', η', loc', y, S, hP, ht, hm⟩
  refine wpAny_mono (I.next k φ' η' loc' s' S hP hm) (fun r s2 z => ?_) fun _ _ z => z.elim
  obtain ⟨h', tk, rfl, hx, z⟩ := z
  obtain ⟨S2, sto⟩ := S.iter (tk := tk) hx (I.alive hP) ht hl h0 hFz
  have y2 := y.iter (tk := tk) hx hn
  cases r with
  | none => exact wpAny_execs_nil (hR _ _ ⟨φ', η', y2, loc', S2, z⟩)
  | some u =>
    obtain ⟨v, k', rfl, hP', hv, hk⟩ := z
    refine wpAny_mono (T.go A it u _ _ (I.alive hP') ?_) (fun _ _ q => q) fun _ _ z => z.elim
    refine wpAny_mono (T.as A L φ' η' loc' _ v u _ _ hA.handled S2 (hv.st (List.prefix_refl _) sto) hk (fun loc3 s3 S3 y3 hk3 => ?_)) (fun _ _ q => q) fun _ _ z => z.elim
    have y23 := y2.trans y3 S₀ S2
    refine wpAny_mono (hb A L φ' η' loc3 s3 _ _ _ _ hA hfr (hF.stepL ap y23) ap S3 hk3) (fun fl s4 z => ?_) fun e s4 z => ?_
    · obtain ⟨φ4, η4, y4, z⟩ := z
      have y34 := y23.trans y4 S₀ S3
      have hit : ∀ o, h'.get? it = some o → s4.heap.get? it = some o := fun o e => y4.ev _ _ (y3.ev _ _ e ht hl) ht hl
      have hP4 : P k' φ4 s4.heap := I.stay hP' y4.pre ((y3.st S2).trans (y4.st S3)) hit
      have ht4 : ∀ p ∈ φ4, p.2 ≠ it := fun p hp q => by
        rcases y4.fresh p hp with h | h
        · exact ht p h q
        · obtain ⟨o, T, vs, ho, -⟩ := I.alive hP'
          have := y3.ev _ _ ho ht hl
          rw [q, this] at h; cases h
      cases fl with
      | next => obtain ⟨loc5, S5, k5⟩ := z; exact ⟨k', Nat.lt_succ_self _, φ4, η4, loc5, y34, S5, hP4, ht4, k5⟩
      | cont => obtain ⟨loc5, S5, k5⟩ := z; exact ⟨k', Nat.lt_succ_self _, φ4, η4, loc5, y34, S5, hP4, ht4, k5⟩
      | brk => exact hR _ _ ⟨φ4, η4, y34, z⟩
      | ret u => exact hR _ _ ⟨φ4, η4, y34, z⟩
    · obtain ⟨k1, ea, rfl, x, k2, k3, k4, k5⟩ := z
      exact XAt.note hfr rfl x fun h4 a0 hh U => hX ea s4 h4 a0 hh k1 (k2.trans y23.gens) (k3.trans y23.drawn) (k4.trans y23.os) (hF.keepL ap y23 (k5.up U))
theorem ssx_for {tgt : Tgt} {target : Expr} {m : XE} {iter : Expr} {a : XS} {body : List Stmt} {pos : Pos} (T : TgtOk G f tgt target) (h₁ : ES G f n m iter) (h₂ : BSX base outer kx G f n a body)
    (hs : ∀ env x, foldedSetIterable iter env x = pure x := by intro _ _; rfl) : SSX base outer kx G f n (sfor tgt m a) (.For target iter body [] pos) := by
  intro A L φ η loc s kn kr kb kc hA hfr hF ap S h
  refine wpAny_For (hs := hs _) (h₁.then (β := Unit) hA S h fun u v η1 φ1 s1 hk hv st S1 => ?_)
  have big := Nat.le_of_lt S1.big
  have fresh : s.heap.get? s1.heap.objs.size = none := by
    cases q : s.heap.get? s1.heap.objs.size with
    | none => rfl
    | some o =>
      exfalso
      by_cases c : ∀ p ∈ φ, p.2 ≠ s1.heap.objs.size
      · exact absurd (Heap.lt_size (st.ev _ _ q c)) (Nat.lt_irrefl _)
      · simp only [ne_eq, Classical.not_forall, Classical.not_not] at c
        obtain ⟨p, hp, e⟩ := c
        have := S1.hr.lt (st.pre.subset hp)
        rw [e] at this; exact absurd this (Nat.lt_irrefl _)
  have notIn : ∀ p ∈ φ1, p.2 ≠ s1.heap.objs.size := fun p hp q => by
    have := S1.hr.lt hp
    rw [q] at this; exact absurd this (Nat.lt_irrefl _)
  have notL : s1.heap.objs.size ≠ L := by
    obtain ⟨o, es, ep, ho, -⟩ := S1.alive
    exact Nat.ne_of_gt (Heap.lt_size ho)
  have hX : ∀ ea (s' : Shared) h' a0, Heap.HeldW base (f.env L :: outer) ea (.ref 58) a0 L h' → kx = true → s'.gens = s.gens → s'.drawn = s.drawn → s'.os = s.os → KeepF outer s.heap h' →
      cameBackBy G.M A (f.env L) (RX G base (f.env L :: outer) L kx s) (.ref ea) { s' with heap := h' } := fun ea s' h' a0 x k1 k2 k3 k4 k5 =>
    XAt.back (s := { s' with heap := h' }) (env := f.env L) rfl x fun h2 y U => ⟨k1, ea, rfl, y, k2, k3, k4, k5.up U⟩
  cases v with
  | ref nn =>
    obtain ⟨d, d', ej, rfl⟩ := hv
    have hk : objCase (getT η1 nn) (fun xs => forList tgt a kn kr nn (Nat.succ (lenV xs)) 0 loc η1) (fun ep kvs => forDict tgt a kn kr nn ep (Nat.succ (lenD kvs)) 0 loc η1) (fun _ => false) = true := hk
    rw [getT_eq] at hk
    rcases obj_of hk with ⟨xs, eo, q⟩ | ⟨ep, kvs, eo, q⟩ | ⟨fs, eo, q⟩
    · obtain ⟨rfl, us, hl, hu⟩ := S1.hr.list ej eo
      obtain ⟨S2, st2⟩ := S1.alloc0 { cls := .type "list_iterator", data := .fields #[.ref d, .int 0 0] }
      refine wpAny_pyIter_list hl.isList (for_coreX (it_list hA.handled (N := Nat.succ (lenV xs)) (nn := nn) (d := d)) T h₂ hA (kb := kb) (kc := kc) (k := Nat.succ (lenV xs)) S (st.trans st2 S.hr S1.hr).l S2 ⟨Nat.le_refl _, ?_, ej⟩ notIn notL big fresh ?_ hfr hF ap (fun fl s' z => z) hX)
      · rw [Nat.sub_self]; exact ⟨_, Heap.get?_push_size _ rfl, rfl, rfl⟩
      · rw [Nat.sub_self]; exact q
    · obtain ⟨rfl, xs, ho, hn, hd⟩ := S1.hr.dict ej eo
      have hlen := hd.length
      obtain ⟨S2, st2⟩ := S1.alloc0 { cls := .type "dict_keyiterator", data := .fields #[.ref d, .int 0 0, .int xs.length 0, .int ep 0] }
      rw [lenD_eq, hlen] at q
      refine iter_dictP (S1.hr.notMod ej) ho (for_coreX (it_dict hA.handled (N := xs.length) (nn := nn) (d := d) (ep := ep)) T h₂ hA (kb := kb) (kc := kc) (k := xs.length + 1) S (st.trans st2 S.hr S1.hr).l S2 ⟨Nat.le_refl _, ?_, ej⟩ notIn notL big fresh ?_ hfr hF ap (fun fl s' z => z) hX)
      · rw [Nat.sub_self]; exact ⟨_, Heap.get?_push_size _ rfl, rfl, rfl⟩
      · rw [Nat.sub_self]; exact q
    · cases q
  | tup vs =>
    obtain ⟨t, us, rfl, ht, hu⟩ := hv
    have hk : forTup tgt a kn kr vs loc η1 = true := hk
    obtain ⟨S2, st2⟩ := S1.alloc0 { cls := .type "tuple_iterator", data := .fields #[.ref t, .int 0 0] }
    refine iter_tuple ht (for_coreX (it_tup hA.handled (vs := vs) (us := us) (t := t)) T h₂ hA (kb := kb) (kc := kc) (k := vs.length) S (st.trans st2 S.hr S1.hr).l S2 ⟨Nat.le_refl _, ?_, ?_, hu.st st2.pre (S1.st st2)⟩ notIn notL big fresh ?_ hfr hF ap (fun fl s' z => z) hX)
    · rw [Nat.sub_self]; exact ⟨_, Heap.get?_push_size _ rfl, rfl, rfl⟩
    · obtain ⟨o, ho, r⟩ := ht
      exact ⟨o, Heap.get?_push_of_some _ ho, r⟩
    · rw [Nat.sub_self]; exact hk
  | range x y z =>
    obtain ⟨r, t, tu, tv, rfl, hr, hsm, hz⟩ := hv
    have hk : forRange tgt a kn kr z (rcount x y z) x loc η1 = true := hk
    obtain ⟨S2, st2⟩ := S1.alloc0 { cls := .type "range_iterator", data := .fields #[rawInt x, rawInt (Builtin.Range.rangeSize x y z), rawInt z] }
    have e0 : x + (((rcount x y z : Nat) : Int) - ((rcount x y z : Nat) : Int)) * z = x := by rw [Int.sub_self, Int.zero_mul, Int.add_zero]
    refine wpAny_pyIter_range hr hsm (for_coreX (it_range hA.handled (x := x) (N := rcount x y z) hz) T h₂ hA (kb := kb) (kc := kc) (k := rcount x y z) S (st.trans st2 S.hr S1.hr).l S2 ⟨Nat.le_refl _, ?_⟩ notIn notL big fresh ?_ hfr hF ap (fun fl s' z => z) hX)
    · rw [e0, rcount_eq hz]; exact Heap.get?_push_size _ rfl
    · rw [e0]; exact hk
  | _ => cases hk
end
end Kp
end
-- part KpX2
section
set_option autoImplicit false
set_option linter.unusedVariables false
set_option maxRecDepth 100000
set_option Elab.async false
namespace Kp
open PySem PySem.W PyProof.Rows PySem.Calls
section
variable {G : Base} {f : Fx} {n : Nat} {base : Heap} {outer : List Env} {kx : Bool}
def FX (base : Heap) (outer : List Env) (kx : Bool) (s : Shared) (e : Value) (s' : Shared) : Prop :=
  kx = true ∧ ∃ ea a0, e = .ref ea ∧ Heap.FlyingW base outer ea (.ref 58) a0 s'.heap ∧ s'.gens = s.gens ∧ s'.drawn = s.drawn ∧ s'.os = s.os ∧ KeepF outer s.heap s'.heap
def FSX (base : Heap) (outer : List Env) (kx : Bool) (G : Base) (n : Nat) (fn : Fn) (a : Addr) : Prop :=
  ∀ A φ η s vs us k, Room A n → A.frames = some outer → FrsAt base φ s.heap outer → HR G φ η s.heap → G.h₀.objs.size ≤ s.heap.objs.size → VsR φ s.heap vs us → fn vs η k = true →
    codeAny G.M A (.call (.ref a) ⟨us, []⟩) (fun r s' => match r with | .ok (.ret u) => Post G φ s k u s' | .ok _ => False | .error e => FX base outer kx s e s') s
theorem FSX.more {fn : Fn} {a : Addr} {n m : Nat} (x : FSX base outer kx G n fn a) (h : n ≤ m) : FSX base outer kx G m fn a := fun A φ η s vs us k hA => x A φ η s vs us k (hA.less h)
theorem FSX.wp {fn : Fn} {a : Addr} (x : FSX base outer kx G n fn a) {A : Around} {φ : Phi} {η : H} {s : Shared} {vs : List V} {us : List Value} {k : V → H → Bool} (hA : Room A n) (hfr : A.frames = some outer) (hF : FrsAt base φ s.heap outer) (r : HR G φ η s.heap) (z : G.h₀.objs.size ≤ s.heap.objs.size) (v : VsR φ s.heap vs us) (h : fn vs η k = true) :
    wpAny G.M A (call (.ref a) us) (Post G φ s k) (FX base outer kx s) s :=
  wpAny_call (codeAny_mono (x A φ η s vs us k hA hfr hF r z v h) fun r s' y => by
    rcases r with e | (u | _ | _ | _) <;> first | exact y | exact y.elim)
-- a call
theorem callx {fn : Fn} {a : Addr} {m : XE} {r : XL} {x : Str} {e : Expr} {es : List Expr} {p pos : Pos} (ok : f.Ok) (hb : ∀ b o, base.get? b = some o → G.fz b o) (hx : f.cs.names.lookup x = some .globalImplicit) (hd : (x == ("__debug__" : Str)) = false) (F : FnAt G x a) (hf : ∀ outer, FSX base outer kx G n fn a) (h₁ : LS G f n (econs m r) (e :: es))
    {A : Around} {L : Addr} {φ : Phi} {η : H} {loc : Loc} {s : Shared} {k : V → H → Bool} (hA : Room A n) (hfr : A.frames = some (f.env L :: outer)) (hF : FrsAt base φ s.heap outer) (S : SR G f φ η L loc s) (h : xcall fn (econs m r) loc η k = true)
    (he : ∀ env, starEach (e :: es) env = (false, eval e env) :: starEach es env := by intro _; rfl) :
    wpAny G.M A (eval (.Call (.Name x p) (e :: es) [] pos) (f.env L)) (Post G φ s k) (FX base (f.env L :: outer) kx s) s := by
  obtain ⟨o, fd, ho, hdat⟩ := F.obj
  refine wpAny_Call_NameR (Name_function_global (env := f.env L) ok.kind hx (loadGlobal_global (env := f.env L) (G.g.keeps S.hr.keep) F.name ?_) hd)
  refine callWith_function (o := o) (fd := fd) ?_
  have z := h₁ pos A L φ η loc s _ hA S h
  rw [he] at z ⊢
  refine evalArgs_plain (wpAny_mono z (fun us s' y => ?_) fun _ _ z => z.elim)
  obtain ⟨vs, ζ, ψ, b, c, d, e'⟩ := y
  refine ⟨⟨e'.keep _ _ ho, hdat⟩, ?_⟩
  have S' := S.step d e'
  refine wpAny_mono ((hf (f.env L :: outer)).wp hA hfr ((hF.step d).push hb ok S') e' (Nat.le_of_lt S'.big) c b) (fun u s'' y => Post.from d S.hr e' y) fun ex s'' y => ?_
  obtain ⟨k1, ea, a0, k2, k3, k4, k5, k6, k7⟩ := y
  exact ⟨k1, ea, a0, k2, k3, k4.trans d.gens, k5.trans d.drawn, k6.trans d.os, (hF.push hb ok S).keep d k7⟩
theorem FX.rx {L : Addr} {s s' : Shared} {e : Value} (x : FX base (f.env L :: outer) kx s e s') : RX G base (f.env L :: outer) L kx s e s' := by
  obtain ⟨k1, ea, a0, k2, ⟨k3, k7, k8, k9⟩, k4, k5, k6, k10⟩ := x
  exact ⟨k1, ea, k2, ⟨k3, k7, k8, .inr (.inr ⟨a0, k9⟩)⟩, k4, k5, k6, fun env he => k10 env (.tail _ he)⟩
theorem ssx_ret {fn : Fn} {a : Addr} {m : XE} {r : XL} {x : Str} {e : Expr} {es : List Expr} {p pos pos' : Pos} (ok : f.Ok) (hb : ∀ b o, base.get? b = some o → G.fz b o) (hx : f.cs.names.lookup x = some .globalImplicit) (hd : (x == ("__debug__" : Str)) = false) (F : FnAt G x a) (hf : ∀ outer, FSX base outer kx G n fn a) (h₁ : LS G f n (econs m r) (e :: es))
    (he : ∀ env, starEach (e :: es) env = (false, eval e env) :: starEach es env := by intro _; rfl) :
    SSX base outer kx G f n (sret (xcall fn (econs m r))) (.Return (some (.Call (.Name x p) (e :: es) [] pos)) pos') := by
  intro A L φ η loc s kn kr kb kc hA hfr hF ap S h
  refine wpAny_Return_some (wpAny_mono (callx ok hb hx hd F hf h₁ hA hfr hF S h (he := he)) (fun u s1 y => ?_) fun _ _ z => z.rx)
  obtain ⟨v, η1, φ1, hk, hv, st, r1⟩ := y
  exact ⟨φ1, η1, st.l, v, r1, hv, hk⟩
theorem FSX.of {fname : Str} {params : Arguments} {body : List Stmt} {doc pm ct : Value} {an : Option Addr} {fo : Obj} {na : Nat} {unbs : List V} {m : XS} (ok : f.Ok)
    (ho : G.h₀.get? f.a = some fo) (hd : fo.data = .func (fnX fname f.cn params body f.cs [] .none .none doc pm an f.ccd ct)) (hcd : G.h₀.CodeRec f.ccd f.cn)
    (hu : unbs.all (fun v => match v with | .unb => true | _ => false) = true) (hlen : na ≤ f.names.length) (hcell : ∀ x ∈ f.cs.names, x.2 ≠ .cell)
    (hbind : ∀ us : List Value, us.length = na → bindArgs (fnX fname f.cn params body f.cs [] .none .none doc pm an f.ccd ct) ⟨us, []⟩ = pure ((f.names.take na).zip us))
    (hz : ∀ b o, base.get? b = some o → G.fz b o) (hb : f.Ok → BSX base outer kx G f n m body) (hco : f.cs.isCoroutine = false := by rfl) (hgen : f.cs.isGenerator = false := by rfl) : FSX base outer kx G (n + 1) (fn na unbs m) f.a := by
  intro A φ η s vs us k hA hfr hF r big hv h
  obtain ⟨ha, hm⟩ := bc_of h
  have ha := Nat.eq_of_beq_eq_true ha
  rw [lenV_eq] at ha
  have hul : us.length = na := by rw [hv.length]; exact ha
  have hnd : (((f.names.take na).zip us).map (·.1)).Nodup := by
    have : ((f.names.take na).zip us).map (·.1) = f.names.take na := by
      rw [List.map_fst_zip]
      rw [List.length_take, hul]; omega
    rw [this]
    exact ok.nd.sublist (List.take_sublist _ _)
  refine codeAny_call_def (fd := fnX fname f.cn params body f.cs [] .none .none doc pm an f.ccd ct) (body := body) (binds := (f.names.take na).zip us) (by have := hA.depth; omega) (r.keep _ _ ho) hd
    (G.lim.keeps r.keep) (hcd.keeps r.keep) rfl (BindsTo.of_eq (hbind us hul)) hcell (fun x hx => ?_) (fun h₁ hns hk => ?_) hco hgen ok.kind
  · have : x.1 ∈ f.names.take na := (List.of_mem_zip hx).1
    exact ok.loc _ (List.mem_of_mem_take this)
  · have kp : ∀ b o, s.heap.get? b = some o → h₁.get? b = some o := hk
    have hA' : Room (A.deeper (f.env s.heap.objs.size)) n := ⟨by have := hA.depth; show A.depth + 1 + n < _; omega, by have := hA.units; show A.units + 3 + 8 * n + 16 < _; omega, hA.handled⟩
    have sto : St s.heap h₁ := fun b o e _ => kp b o e
    have S : SR G f φ η s.heap.objs.size (vs ++ unbs) { s with heap := h₁, toks := s.toks + ((f.names.take na).zip us).length } := by
      refine ⟨r.grow kp, big, fun p hp q => ?_, fun o e => absurd (Heap.lt_size (r.frz _ _ e)) (Nat.lt_irrefl _), _, hns, fun i nm hi hne => ?_⟩
      · have := r.lt hp
        rw [q] at this; exact absurd this (Nat.lt_irrefl _)
      · by_cases c : i < vs.length
        · have e1 : getV (vs ++ unbs) i = vs[i] := by rw [getV_eq, List.getElem?_append_left c, List.getElem?_eq_getElem c]; rfl
          rw [e1]
          obtain ⟨u, hu1, hu2⟩ := hv.get (List.getElem?_eq_getElem c)
          refine ⟨u, ?_, hu2.st (List.prefix_refl _) sto⟩
          rw [lookup_reverse _ _ hnd]
          refine zip_lookup _ us i nm u (ok.nd.sublist (List.take_sublist _ _)) ?_ hu1
          rw [List.getElem?_take, if_pos (by omega)]; exact hi
        · exfalso
          apply hne
          rw [getV_eq, List.getElem?_append_right (by omega)]
          cases q : unbs[i - vs.length]? with
          | none => rfl
          | some v =>
            have := List.all_eq_true.mp hu v (List.mem_of_getElem? q)
            cases v <;> first | rfl | cases this
    have ap : Apart s.heap.objs.size outer := fun env he q => by
      obtain ⟨_, L, o, _, _, b, _, c, _⟩ := hF env he
      rw [b] at q; cases q
      exact absurd (Heap.lt_size c) (Nat.lt_irrefl _)
    refine wpAny_mono (hb ok _ s.heap.objs.size φ η (vs ++ unbs) _ _ _ _ _ hA' (Around.frames_deeper hfr) (hF.grow kp) ap S hm) (fun fl s' z => ?_) fun e s' z => ?_
    rotate_left
    · obtain ⟨k1, ea, rfl, x, k2, k3, k4, k5⟩ := z
      exact XAt.leave (env := f.env s.heap.objs.size) (Around.frames_deeper hfr) rfl x fun h' a0 y U => ⟨k1, ea, a0, rfl, y, k2, k3, k4, KeepF.grow kp (k5.up U)⟩
    obtain ⟨φ', η', y, z⟩ := z
    have st : Step φ φ' s s' := by
      refine ⟨y.pre, fun b o e nn => y.ev b o (kp b o e) nn (Nat.ne_of_lt (Heap.lt_size e)), fun p hp => ?_, y.gens, y.drawn, y.os⟩
      rcases y.fresh p hp with q | q
      · exact .inl q
      · cases c : s.heap.get? p.2 with
        | none => exact .inr rfl
        | some o =>
          have : h₁.get? p.2 = none := q
          rw [kp _ _ c] at this; cases this
    cases fl with
    | next => obtain ⟨loc', S', hk'⟩ := z; exact ⟨.none, η', φ', hk', rfl, st, S'.hr⟩
    | ret u => obtain ⟨v, r', hv', hk'⟩ := z; exact ⟨v, η', φ', hk', hv', st, r'⟩
    | brk => obtain ⟨_, _, hk'⟩ := z; cases hk'
    | cont => obtain ⟨_, _, hk'⟩ := z; cases hk'
end
end Kp
end
-- part KpX3
section
set_option autoImplicit false
set_option linter.unusedVariables false
set_option maxRecDepth 100000
set_option Elab.async false
namespace Kp
open PySem PySem.W PyProof.Rows PySem.Calls
section
variable {G : Base}
theorem fsx_probe_kpk (B : Own G) (hmE : G.mg "Exception" = none) (hbE : G.mb "Exception" = bootBuiltins "Exception") {base : Heap} {kx : Bool} (hz : ∀ b o, base.get? b = some o → G.fz b o) (outer : List Env) : FSX base outer kx G 3 (f_probe_kpkX kx) 158 := by
  refine FSX.of (G := G) (f := Fx.mk "probe_kpk" ?cs 158 (.ref 157) ["geo", "base", "side", "strong", "pawn", "weak", "square"]) (n := 2) (fo := ?fo) (fname := ?p0) (params := ?p1) (body := ?p2) (doc := ?p3) (pm := ?p4) (ct := ?p5) (an := ?p6) ?ok (B.at ?hl) ?hd ?hcd ?hu ?hlen ?hcell ?hbind hz ?hb ?hco ?hgen
  case hl => exact rfl
  case hd => exact rfl
  case ok => exact ⟨rfl, by decide +kernel, by decide +kernel, by decide +kernel⟩
  case hcd => exact ⟨_, _, _, _, rfl, B.at (by rfl), rfl, rfl⟩
  case hu => rfl
  case hlen => decide
  case hcell => decide +kernel
  case hbind => intro us h; rcases us with _ | ⟨_, _ | ⟨_, _ | ⟨_, _ | ⟨_, _ | ⟨_, _ | ⟨_, _ | ⟨_, us⟩⟩⟩⟩⟩⟩⟩ <;> first | rfl | (exfalso; simp only [List.length_cons, List.length_nil] at h; omega)
  case hco => rfl
  case hgen => rfl
  case hb =>
    intro ok
    unfold b_probe_kpkX
    exact (bsx_cons (ssx_for (tgt_var ok rfl) (es_tup (ls_cons (es_loc ok rfl) (ls_cons (es_loc ok rfl) ls_nil)))
      (bsx_one (ssx_if (ts_not (ts_cmp2 (cm_le _) (cm_lt _) (es_int rfl) (es_loc ok rfl) (es_attr rfl (es_loc ok rfl))))
       (bsx_one (ssx_raise B hmE hbE hz ok (by kernel_rfl) (es_loc ok rfl)))
       (BSX.of bs_nil))))
     (bsx_cons (ssx_if (ts_not (ts_cmp2 (cm_le _) (cm_lt _) (es_attr rfl (es_loc ok rfl)) (es_loc ok rfl) (es_bin (op_sub _) (es_attr rfl (es_loc ok rfl)) (es_attr rfl (es_loc ok rfl)))))
      (bsx_one (ssx_raise B hmE hbE hz ok (by kernel_rfl) (es_loc ok rfl)))
      (BSX.of bs_nil))
     (bsx_cons (SSX.of (ss_if (ts_cmp (cm_ge _) (es_bin (op_mod _) (es_loc ok rfl) (es_attr rfl (es_loc ok rfl))) (es_call ok (by kernel_rfl) (by kernel_rfl) (at_pawn_files B) ((fs_pawn_files B).more (by decide)) (ls_cons (es_loc ok rfl) ls_nil)))
      (bs_cons (ss_set ok rfl (es_call ok (by kernel_rfl) (by kernel_rfl) (at_mirrored B) ((fs_mirrored B).more (by decide)) (ls_cons (es_loc ok rfl) (ls_cons (es_loc ok rfl) ls_nil))))
      (bs_cons (ss_set ok rfl (es_call ok (by kernel_rfl) (by kernel_rfl) (at_mirrored B) ((fs_mirrored B).more (by decide)) (ls_cons (es_loc ok rfl) (ls_cons (es_loc ok rfl) ls_nil))))
      (bs_one (ss_set ok rfl (es_call ok (by kernel_rfl) (by kernel_rfl) (at_mirrored B) ((fs_mirrored B).more (by decide)) (ls_cons (es_loc ok rfl) (ls_cons (es_loc ok rfl) ls_nil)))))))
      bs_nil))
     (bsx_one (SSX.of (ss_ret (es_sub (es_loc ok rfl) (es_call ok (by kernel_rfl) (by kernel_rfl) (at_kpk_index B) ((fs_kpk_index B).more (by decide)) (ls_cons (es_loc ok rfl) (ls_cons (es_loc ok rfl) (ls_cons (es_loc ok rfl) (ls_cons (es_loc ok rfl) (ls_cons (es_loc ok rfl) ls_nil)))))))))))))

theorem fsx_probe_for (B : Own G) (hmE : G.mg "Exception" = none) (hbE : G.mb "Exception" = bootBuiltins "Exception") {base : Heap} {kx : Bool} (hz : ∀ b o, base.get? b = some o → G.fz b o) (outer : List Env) : FSX base outer kx G 4 (f_probe_forX kx) 165 := by
  refine FSX.of (G := G) (f := Fx.mk "probe_for" ?cs 165 (.ref 164) ["geo", "base", "owner", "side", "strong", "pawn", "weak"]) (n := 3) (fo := ?fo) (fname := ?p0) (params := ?p1) (body := ?p2) (doc := ?p3) (pm := ?p4) (ct := ?p5) (an := ?p6) ?ok (B.at ?hl) ?hd ?hcd ?hu ?hlen ?hcell ?hbind hz ?hb ?hco ?hgen
  case hl => exact rfl
  case hd => exact rfl
  case ok => exact ⟨rfl, by decide +kernel, by decide +kernel, by decide +kernel⟩
  case hcd => exact ⟨_, _, _, _, rfl, B.at (by rfl), rfl, rfl⟩
  case hu => rfl
  case hlen => decide
  case hcell => decide +kernel
  case hbind => intro us h; rcases us with _ | ⟨_, _ | ⟨_, _ | ⟨_, _ | ⟨_, _ | ⟨_, _ | ⟨_, _ | ⟨_, _ | ⟨_, us⟩⟩⟩⟩⟩⟩⟩⟩ <;> first | rfl | (exfalso; simp only [List.length_cons, List.length_nil] at h; omega)
  case hco => rfl
  case hgen => rfl
  case hb =>
    intro ok
    unfold b_probe_forX
    exact (bsx_cons (ssx_if (ts_cmp (cm_eq _) (es_loc ok rfl) (es_glob ok (by kernel_rfl) (mg_WHITE B) (vr_WHITE B) (by kernel_rfl)))
      (bsx_one (ssx_ret ok hz (by kernel_rfl) (by kernel_rfl) (at_probe_kpk B) (fun o => (fsx_probe_kpk B hmE hbE hz o).more (by decide)) (ls_cons (es_loc ok rfl) (ls_cons (es_loc ok rfl) (ls_cons (es_loc ok rfl) (ls_cons (es_loc ok rfl) (ls_cons (es_loc ok rfl) (ls_cons (es_loc ok rfl) ls_nil))))))))
      (BSX.of bs_nil))
     (bsx_one (ssx_ret ok hz (by kernel_rfl) (by kernel_rfl) (at_probe_kpk B) (fun o => (fsx_probe_kpk B hmE hbE hz o).more (by decide)) (ls_cons (es_loc ok rfl) (ls_cons (es_loc ok rfl) (ls_cons (es_bin (op_sub _) (es_int rfl) (es_loc ok rfl)) (ls_cons (es_call ok (by kernel_rfl) (by kernel_rfl) (at_flipped B) ((fs_flipped B).more (by decide)) (ls_cons (es_loc ok rfl) (ls_cons (es_loc ok rfl) ls_nil))) (ls_cons (es_call ok (by kernel_rfl) (by kernel_rfl) (at_flipped B) ((fs_flipped B).more (by decide)) (ls_cons (es_loc ok rfl) (ls_cons (es_loc ok rfl) ls_nil))) (ls_cons (es_call ok (by kernel_rfl) (by kernel_rfl) (at_flipped B) ((fs_flipped B).more (by decide)) (ls_cons (es_loc ok rfl) (ls_cons (es_loc ok rfl) ls_nil))) ls_nil)))))))))

end
end Kp
end
-- part KpTry
section
set_option autoImplicit false
set_option linter.unusedVariables false
set_option maxRecDepth 100000
set_option Elab.async false
namespace Kp
open PySem PySem.W PyProof.Rows PySem.Calls

-- the ground laid anew: all that stands, but for the frame's own names, stays
noncomputable abbrev refz (G : Base) (h : Heap) (L : Addr) (n : Nat) : Base := { G with fz := fun b o => (hideAll h [L]).get? b = some o, ro := n }
section
variable {G : Base} {f : Fx} {n : Nat}
theorem OR.refz {h0 : Heap} {L : Addr} {k : Nat} {φ : Phi} {h : Heap} : ∀ {o : AO} {a d : Addr}, OR G φ h o a d → OR (refz G h0 L k) φ h o a d
  | .no, _, _, x => x
  | .list _, _, _, x => x
  | .inst _, _, _, x => x
  | .dict ep kvs, a, d, ⟨e, xs, ho, hn, hd⟩ => ⟨e, xs, ho, hn, by
      clear ho hn
      induction kvs generalizing xs with
      | nil => exact hd
      | cons p r ih =>
        obtain ⟨q, y, s, e1, e2, e3, e4, e5⟩ := hd
        exact ⟨q, y, s, e1, e2, e3, e4, ih s e5⟩⟩
theorem SR.refz {φ : Phi} {η : H} {L : Addr} {loc : Loc} {s : Shared} (S : SR G f φ η L loc s) : SR (refz G s.heap L η.n) f φ ⟨η.t, η.n, η.n⟩ L loc s := by
  refine ⟨⟨S.hr.keep, S.hr.len, fun i a d e => (S.hr.obj i a d e).refz, S.hr.above, S.hr.nd, fun b o e => of_hideAll _ e, fun i p e hi => ?_, rfl⟩, S.above, S.out, fun o e => ?_, S.fr⟩
  · have h1 := (List.getElem?_eq_some_iff.mp e).1
    have h2 := S.hr.len
    have hi : η.n ≤ i := hi
    omega
  · have e : (hideAll s.heap [L]).get? L = some o := e
    rw [hideAll_none [L] (.head _)] at e; cases e
-- what is known holds on
theorem SR.back {φ : Phi} {η : H} {L : Addr} {loc : Loc} {s s' : Shared} {m : Str → Option Value} (S : SR G f φ η L loc s) (k : ∀ b o, (hideAll s.heap [L]).get? b = some o → s'.heap.get? b = some o) (g : s'.gens = s.gens) (d : s'.drawn = s.drawn) (o : s'.os = s.os)
    (ns : s'.heap.Ns L m) (hm : ∀ i nm, f.names[i]? = some nm → getV loc i ≠ .unb → ∃ u, m nm = some u ∧ VR φ s'.heap (getV loc i) u) : SR G f φ η L loc s' ∧ StepL L φ φ s s' := by
  have kp : ∀ b ob, b ≠ L → s.heap.get? b = some ob → s'.heap.get? b = some ob := fun b ob q e => k b ob (hideAll_get _ e (by simpa using q))
  have sto : St s.heap s'.heap := fun b ob e i => kp b ob (fun q => by
    subst q
    obtain ⟨o', es, ep, ho, hd⟩ := S.alive
    rw [e] at ho
    cases ho
    rcases i with ⟨-, _, _, i⟩ | ⟨-, _, i⟩ | i <;> rw [hd] at i <;> cases i) e
  refine ⟨⟨⟨fun b ob e => kp b ob (fun q => by subst q; exact absurd (Heap.lt_size e) (Nat.not_lt.mpr S.above)) (S.hr.keep b ob e), S.hr.len, fun i a c e => ?_, S.hr.above, S.hr.nd, fun b ob e => kp b ob (fun q => S.outF ob (q ▸ e)) (S.hr.frz b ob e), S.hr.aboveF, S.hr.ror⟩,
    S.above, S.out, S.outF, m, ns, hm⟩, List.prefix_refl _, fun b ob e _ q => kp b ob q e, fun _ h => .inl h, g, d, o⟩
  obtain ⟨ob, hob, -⟩ := (S.hr.obj i a c e).alive
  exact (S.hr.obj i a c e).st (List.prefix_refl _) sto ((kp c ob (S.out (a, c) (List.mem_of_getElem? e)) hob).trans hob.symm)

theorem lookup_of_mem {cs : Scope} {x : Str} : True := trivial

-- try: told = probe_for(..); except BadSquare: if not is_bad: return False
theorem ssx_try (B : Own G) (hmE : G.mg "Exception" = none) (hbE : G.mb "Exception" = bootBuiltins "Exception") (ok : f.Ok) (hl : 4 ≤ n) {base : Heap} {p p2 p3 p4 p5 p6 p7 p8 p9 : Pos} {k1 : Nat} {np cpos apos : Pos} {e : Expr} {es : List Expr}
    (hB : f.cs.names.lookup ("BadSquare" : Str) = some .globalImplicit) (hP : f.cs.names.lookup ("probe_for" : Str) = some .globalImplicit)
    (h20 : f.names[20]? = some ("is_bad" : Str)) (h21 : f.names[21]? = some ("told" : Str))
    (hgood : SS G f n (sset 21 (xcall f_probe_for tryArgs)) (.Assign [.Name "told" p] (.Call (.Name "probe_for" np) (e :: es) [] cpos) apos))
    (hargs : ∀ G' : Base, LS G' f n tryArgs (e :: es)) (he : ∀ env, starEach (e :: es) env = (false, eval e env) :: starEach es env := by intro _; rfl)
    (hs : ∀ env, swapsWith (.Call (.Name "probe_for" np) (e :: es) [] cpos) (some (.Name "told" p)) apos.line env = pure false := by intro _; rfl) :
    SSX base [] false G f n stry (.Try [.Assign [.Name "told" p] (.Call (.Name "probe_for" np) (e :: es) [] cpos) apos]
      [.ExceptHandler (some (.Name "BadSquare" p2)) none [.If (.UnaryOp .Not (.Name "is_bad" p3) p4) [.Return (some (.Constant (.bool false) k1 p5)) p6] [] p7] p8] [] [] p9) := by
  intro A L φ η loc s kn kr kb kc hA hfr hF ap S h
  obtain ⟨b, hb, hv⟩ := truthy_of (k := fun b => bcase b (bcase (xcall (f_probe_forX true) tryArgs loc (frzH η) fun _ _ => false) (kn loc η) false) (sset 21 (xcall f_probe_for tryArgs) loc η kn kr kb kc)) h
  refine wpAny_Try_except ?_
  cases b with
  | false =>
    refine wpAny_execs_cons (wpAny_mono (hgood A L φ η loc s kn kr kb kc hA S hb) (fun fl s' x => ?_) fun _ _ z => z.elim)
    cases fl with
    | next => exact wpAny_execs_nil (wpAny_execs_nil x)
    | ret u => exact x
    | brk => exact x
    | cont => exact x
  | true =>
    obtain ⟨hx, hk⟩ := bc_of hb
    have Sz := S.refz
    have hx' : xcall (f_probe_forX true) tryArgs loc ⟨η.t, η.n, η.n⟩ (fun _ _ => false) = true := by cases η; exact hx
    have Bz : Own (refz G s.heap L η.n) := ⟨B.K, B.C, B.fI⟩
    refine wpAny_execs_cons (wpAny_Assign_Name (hs := hs _) (wpAny_mono (callx (G := refz G s.heap L η.n) (base := hideAll s.heap [L]) (outer := []) (kx := true) ok (fun _ _ e => e) hP (by decide) (at_probe_for Bz)
      (fun o => (fsx_probe_for Bz hmE hbE (fun _ _ e => e) o).more hl) (hargs _) hA hfr (fun _ h => by cases h) Sz hx' (he := he)) (fun u s1 y => ?_) fun ex s1 y => ?_))
    · obtain ⟨_, _, _, q, _⟩ := y; cases q
    · obtain ⟨-, ea, a0, rfl, hfl, g1, g2, g3, g4⟩ := y
      -- noted, landed, handled
      refine wpAny_looks_onW (env := f.env L) (outer := []) hfr rfl hfl fun h2 hh2 U2 => ?_
      refine wpAny_landsW hh2 fun h3 hfl3 U3 => ?_
      have hk3 : (hideAll s.heap [L]).StaysIn h3 := hfl3.1
      have keep3 : ∀ b o, G.h₀.get? b = some o → h3.get? b = some o := fun b o e => hk3 b o (hideAll_get _ (S.hr.keep b o e) (by
        simp only [List.mem_singleton]
        rintro rfl
        exact absurd (Heap.lt_size e) (Nat.not_lt.mpr S.above)))
      obtain ⟨nm, q, N, bs, hdct, sn, sub, ab, col, dd, c0, c1, c2, c3, c5, hl58⟩ := cls58 G.w
      have hC : h3.get? 58 = some (excClassObj nm q 58 N bs bm58 hdct sn sub ab col dd c0 c1 c2 c3 c5 "Exception.__new__") := keep3 _ _ (G.X _ _ (by rw [B.K]; exact hl58))
      obtain ⟨ob, hob, hobc⟩ := hfl3.there
      refine wpAny_handleBy_cons (codeAny_handlers_test (Name_function_global (env := f.env L) ok.kind hB (loadGlobal_global (env := f.env L) (G.g.keeps keep3) (mg_BadSquare B) ?_) (by decide))) (by intro z; cases z)
      refine wpAny_excMatches_sub_self hC hob hobc (by decide) ?_
      refine codeAny_handlers_suite (lands_againW hfl3 fun h4 hfl4 U4 => ?_)
      have hk4 : (hideAll s.heap [L]).StaysIn h4 := hfl4.1
      -- the frame's names stand
      obtain ⟨m, hns, hm⟩ := S.fr
      have hns4 : h4.Ns L m := by
        obtain ⟨o, es', ep, ho, hd, r⟩ := hns
        obtain ⟨sl, e1⟩ := ((((g4.up U2).up U3).up U4) (f.env L) (.head _) L o rfl ho fun vs z => by rw [hd] at z; cases z)
        exact ⟨_, es', ep, e1, hd, r⟩
      have st4 : St s.heap h4 := fun b o e i => hk4 b o (hideAll_get _ e (by
        simp only [List.mem_singleton]
        rintro rfl
        obtain ⟨o', es', ep, ho, hd⟩ := S.alive
        rw [e] at ho
        cases ho
        rcases i with ⟨-, _, _, i⟩ | ⟨-, _, i⟩ | i <;> rw [hd] at i <;> cases i))
      obtain ⟨S4, y4⟩ := S.back (s' := { s1 with heap := h4 }) hk4 g1 g2 g3 hns4 fun i nm' e1 e2 => by
        obtain ⟨u, x1, x2⟩ := hm i nm' e1 e2
        exact ⟨u, x1, x2.st (List.prefix_refl _) st4⟩
      obtain ⟨m4, ns4, hm4⟩ := S4.fr
      have hu : getV loc 20 ≠ .unb := by rcases hv with z | ⟨i, z, -⟩ <;> rw [z] <;> intro q <;> cases q
      obtain ⟨u, e1, hvu⟩ := hm4 20 _ h20 hu
      have mem := List.mem_of_getElem? h20
      refine wpAny_execs_cons (wpAny_If ?_)
      show wpAny _ _ (PySem.isTrue (.Name "is_bad" p3) (f.env L) (eval (.Name "is_bad" p3) (f.env L)) >>= fun b => pure !b) _ _ _
      have hi : ∀ env w, PySem.isTrue (.Name "is_bad" p3) env w = (do let v ← w; standAt p3; holding [v] (PySem.truthy v)) := by intro _ _; with_unfolding_all rfl
      rw [hi]
      refine wpAny_bind (wpAny_bind (wpAny_Name (wpAny_loadName_local ok.kind (ok.loc _ mem) ns4 e1 ?_) (ok.dbg _ mem)))
      refine wpAny_bind (wpAny_standAt (wpAny_holding (wp_truthy hvu hv (wpAny_pure ?_))))
      exact wpAny_execs_nil (wpAny_execs_nil ⟨φ, η, y4, loc, S4, hk⟩)
end
end Kp
end
-- part KpChk
section
set_option autoImplicit false
set_option linter.unusedVariables false
namespace Kp
noncomputable section
def allL (xs : List Nat) (f : Nat → Bool) : Bool := @List.rec Nat (fun _ => Bool) true (fun x _ ih => bcase (f x) ih false) xs
def takeK (xs : List V) (tail : List V) : Nat → (List V → Bool) → Bool :=
  @List.rec V (fun _ => Nat → (List V → Bool) → Bool) (fun _ k => k tail) (fun x _ ih n k => @Nat.rec (fun _ => Bool) (k tail) (fun m _ => ih m fun ys => k (x :: ys)) n) xs
-- the same value, or nothing asked
def veq (a b : V) : Bool :=
  @V.rec (fun _ => Bool) (fun _ => Bool) true
    (@V.rec (fun _ => Bool) (fun _ => Bool) false true (fun _ => false) (fun _ => false) (fun _ => false) (fun _ _ => false) (fun _ _ _ => false) false (fun _ _ _ _ => false) b)
    (fun x => @V.rec (fun _ => Bool) (fun _ => Bool) false false (fun y => bcase x y (bnt y)) (fun _ => false) (fun _ => false) (fun _ _ => false) (fun _ _ _ => false) false (fun _ _ _ _ => false) b)
    (fun x => @V.rec (fun _ => Bool) (fun _ => Bool) false false (fun _ => false) (fun y => ieq x y) (fun _ => false) (fun _ _ => false) (fun _ _ _ => false) false (fun _ _ _ _ => false) b)
    (fun x => @V.rec (fun _ => Bool) (fun _ => Bool) false false (fun _ => false) (fun _ => false) (fun y => Nat.beq x y) (fun _ _ => false) (fun _ _ _ => false) false (fun _ _ _ _ => false) b)
    (fun _ _ => false) (fun _ _ _ => false) false (fun _ _ _ _ => false) a
def same (xs : List V) : Nat → List V → Bool :=
  @List.rec V (fun _ => Nat → List V → Bool) (fun n _ => @Nat.rec (fun _ => Bool) true (fun _ _ => false) n)
    (fun x _ ih n ys => @Nat.rec (fun _ => Bool) true (fun m _ => @List.rec V (fun _ => Bool) false (fun y r _ => bcase (veq x y) (ih m r) false) ys) n) xs
def no2 : KN := fun _ _ => false
def noR : KR := fun _ _ => false
-- a drawn placing, on the board: told, and then the law's own reckoning
def b_Q : XS := sseq (sset (nat_lit 21) (xcall f_probe_kpk (econs (xloc (nat_lit 7)) (econs (xloc (nat_lit 8)) (econs (xloc (nat_lit 13)) (econs (xloc (nat_lit 14)) (econs (xloc (nat_lit 15)) (econs (xloc (nat_lit 16)) enil)))))))) b_loop_13
def tail14 (sd st pw wk told : V) : List V := [.unb, sd, st, pw, wk, .unb, .unb, .unb, .unb, told, .unb, .unb, .unb, .unb]
def one (l : Loc) (h : H) (sd st pw wk : Nat) : Bool := takeK l (tail14 (.int (.ofNat sd)) (.int (.ofNat st)) (.int (.ofNat pw)) (.int (.ofNat wk)) .unb) (nat_lit 12) fun l1 => b_Q l1 h (fun l' _ => same l1 (nat_lit 12) l') noR no2 no2
def chk (ss ps : List Nat) : KN := fun l h => @H.rec (fun _ => Bool) (fun t n _ =>
  allL ss fun st => allL ps fun pw => allL ss fun wk => allL [(nat_lit 0), (nat_lit 1)] fun sd => one l ⟨t, n, n⟩ sd st pw wk) h
def b_law_8' (c : Nat) : XS := (sset (nat_lit 10) (xlit (.int (.ofNat c))))
def tuples : List V := [.tup [.int (.ofNat (nat_lit 2)), .int (.ofNat (nat_lit 3))], .tup [.int (.ofNat (nat_lit 2)), .int (.ofNat (nat_lit 4))], .tup [.int (.ofNat (nat_lit 3)), .int (.ofNat (nat_lit 3))], .tup [.int (.ofNat (nat_lit 2)), .int (.ofNat (nat_lit 5))]]
def η₀ (xs : List V) : H := ⟨.node (.ob (.list xs)) .nil .nil, nat_lit 1, nat_lit 0⟩
def η₁ (xs : List V) : H := ⟨.node (.ob (.list xs)) (.node (.ob (.list tuples)) .nil .nil) .nil, nat_lit 2, nat_lit 0⟩
def l₀ : Loc := [.unb, .ref (nat_lit 0), .unb, .unb, .unb, .unb, .unb, .unb, .unb, .unb, .unb, .unb, .unb, .unb, .unb, .unb, .unb, .unb, .unb, .unb, .unb, .unb, .unb, .unb, .unb, .unb]
def l₄ (fl rk sz : Nat) (lc db : Bool) : Loc := [.unb, .ref (nat_lit 0), .int (.ofNat fl), .int (.ofNat rk), .int (.ofNat sz), .bool lc, .bool db, .unb, .unb, .unb, .unb, .unb, .unb, .unb, .unb, .unb, .unb, .unb, .unb, .unb, .unb, .unb, .unb, .unb, .unb, .unb]
-- what the run's end tells, word for word
def facts (P : List V → List V → Bool) : KN := fun l h =>
  asRef (getV l (nat_lit 7)) fun g => objCase (getT h g) (fun _ => false) (fun _ _ => false) fun fs =>
    objCase (getT h (nat_lit 0)) (P [.int (.ofNat (lenV l)), getV l (nat_lit 1), getV l (nat_lit 2), getV l (nat_lit 3), getV l (nat_lit 4), getV l (nat_lit 5), getV l (nat_lit 10), getV fs (nat_lit 0), getV fs (nat_lit 1), getV fs (nat_lit 2)]) (fun _ _ => false) (fun _ => false)
def facts7 (P : List V → List V → Bool) : KN := fun l h => objCase (getT h (nat_lit 0)) (P [getV l (nat_lit 1), getV l (nat_lit 2)]) (fun _ _ => false) (fun _ => false)
def b57 : XS := sseq b_law_5 (sseq b_law_6 b_law_7)
def rest (c : Nat) : XS := sseq (b_law_8' c) (sseq b_law_9 (sseq b_law_10 b_law_11))
def kn11 (ss ps : List Nat) (P : List V → List V → Bool) : KN := fun l h => bcase (same l (nat_lit 12) l) (bcase (chk ss ps l h) (facts P l h) false) false
def kn7 (c : Nat) (ss ps : List Nat) (P P7 : List V → List V → Bool) : KN := fun l h => bcase (rest c l h (kn11 ss ps P) noR no2 no2) (facts7 P7 l h) false
def run (fl rk sz : Nat) (lc db : Bool) (c : Nat) (ss ps : List Nat) (xs : List V) (P P7 : List V → List V → Bool) : Bool := b57 (l₄ fl rk sz lc db) (η₁ xs) (kn7 c ss ps P P7) noR no2 no2
def ends (fl rk sz : Nat) (lc : Bool) (c : Nat) (xs : List V) (P P7 : List V → List V → Bool) : Bool :=
  bcase (P [.int (.ofNat (nat_lit 26)), .ref (nat_lit 0), .int (.ofNat fl), .int (.ofNat rk), .int (.ofNat sz), .bool lc, .int (.ofNat c), .int (.ofNat fl), .int (.ofNat rk), .int (.ofNat sz)] xs) (P7 [.ref (nat_lit 0), .int (.ofNat fl)] xs) false
end
end Kp
end
-- part KpEv
section
set_option autoImplicit false
set_option linter.unusedVariables false
namespace Kp

-- a combinator's value at a place
def Ev (e : XE) (l : Loc) (h : H) (v : V) : Prop := ∀ k, e l h k = k v h
def Evs (e : XL) (l : Loc) (h : H) (vs : List V) : Prop := ∀ k, e l h k = k vs h
section
variable {l : Loc} {h : H} {a b c : XE} {i j m : Int} {v w : V} {r : XL} {vs : List V}
theorem known_eq {v : V} (hv : v ≠ .unb) (k : V → Bool) : known v k = k v := by cases v <;> first | rfl | exact absurd rfl hv
theorem ev_lit : Ev (xlit v) l h v := fun _ => rfl
theorem ev_loc {i : Nat} (e : getV l i = v) (hv : v ≠ .unb) : Ev (xloc i) l h v := fun k => by
  show known (getV l i) (fun v => k v h) = _
  rw [e, known_eq hv]
theorem ev_int {i : Nat} {x : Int} (e : getV l i = .int x) : Ev (xloc i) l h (.int x) := ev_loc e (fun z => by cases z)
theorem ev_bool {i : Nat} {x : Bool} (e : getV l i = .bool x) : Ev (xloc i) l h (.bool x) := ev_loc e (fun z => by cases z)
theorem ev_ref {i : Nat} {x : Nat} (e : getV l i = .ref x) : Ev (xloc i) l h (.ref x) := ev_loc e (fun z => by cases z)
theorem ev_bin {o : Op} (ha : Ev a l h (.int i)) (hb : Ev b l h (.int j)) (ho : ∀ k, o i j k = k m) : Ev (xbin o a b) l h (.int m) := fun k => by
  show a l h _ = _
  rw [ha]
  show b l h _ = _
  rw [hb]
  exact ho _
theorem o_add {i j : Int} (k : Int → Bool) : oadd i j k = k (i + j) := by unfold oadd; rw [iadd_eq]
theorem o_sub {i j : Int} (k : Int → Bool) : osub i j k = k (i - j) := by unfold osub; rw [iadd_eq, ineg_eq, Int.sub_eq_add_neg]
theorem small_in {a : Int} {t : Bool} (h1 : a < 2 ^ 60) (h2 : -(2 ^ 60) ≤ a) : small a t false = t := by
  unfold small
  rw [ilt_eq, ilt_eq]
  have e1 : decide (a < .ofNat 1152921504606846976) = true := by simp only [decide_eq_true_eq, Int.ofNat_eq_natCast]; omega
  have e2 : decide (Int.negSucc 1152921504606846976 < a) = true := by simp only [decide_eq_true_eq, Int.negSucc_eq]; omega
  rw [e1, e2]; rfl
theorem o_mul {i j : Int} (h1 : i < 2 ^ 60) (h2 : -(2 ^ 60) ≤ i) (k : Int → Bool) : omul i j k = k (i * j) := by unfold omul; rw [small_in h1 h2, imul_eq]
theorem pos2_in {a b : Int} {f : Int → Bool} (h1 : 0 < b) (h2 : b ≤ 1000000) : pos2 a b f = f a := by
  obtain ⟨n, rfl⟩ := Int.eq_ofNat_of_zero_le (Int.le_of_lt h1)
  obtain ⟨n, rfl⟩ : ∃ m, n = m + 1 := ⟨n - 1, by omega⟩
  show bcase (Nat.ble (n + 1) 1000000) (f a) false = _
  rw [show Nat.ble (n + 1) 1000000 = true from Nat.ble_eq_true_of_le (by omega)]; rfl
theorem o_div {i j : Int} (h1 : 0 < j) (h2 : j ≤ 1000000) (k : Int → Bool) : odiv i j k = k (i / j) := by unfold odiv; rw [pos2_in h1 h2, ifdiv_eq, Int.fdiv_eq_ediv_of_nonneg _ (by omega)]
theorem o_mod {i j : Int} (h1 : 0 < j) (h2 : j ≤ 1000000) (k : Int → Bool) : omod i j k = k (i % j) := by unfold omod; rw [pos2_in h1 h2, ifmod_eq, Int.fmod_eq_emod_of_nonneg _ (by omega)]
theorem ev_cmp {o : Cm} {t : Bool} (ha : Ev a l h (.int i)) (hb : Ev b l h (.int j)) (ht : o i j = t) : Ev (xcmp o a b) l h (.bool t) := fun k => by
  show a l h _ = _
  rw [ha]
  show b l h _ = _
  rw [hb, ← ht]; rfl
theorem ev_cmp2 {o p : Cm} {t : Bool} (ha : Ev a l h (.int i)) (hb : Ev b l h (.int j)) (hc : Ev c l h (.int m)) (ht : (o i j && p j m) = t) : Ev (xcmp2 o p a b c) l h (.bool t) := fun k => by
  show a l h _ = _
  rw [ha]
  show b l h _ = _
  rw [hb, ← ht]
  show bcase (o i j) (c l h _) _ = _
  cases o i j with
  | false => rfl
  | true => exact hc _
theorem ev_not {t u : Bool} (ha : Ev a l h (.bool t)) (ht : (!t) = u) : Ev (xnot a) l h (.bool u) := fun k => by
  show a l h _ = _
  rw [ha, ← ht, ← bnt_eq]; rfl
theorem ev_and {t u : Bool} (ha : Ev a l h (.bool t)) (hb : Ev b l h (.bool u)) : Ev (xand a b) l h (.bool (t && u)) := fun k => by
  show a l h _ = _
  rw [ha]
  cases t with
  | false => rfl
  | true => exact hb _
theorem ev_neg (ha : Ev a l h (.int i)) : Ev (xneg a) l h (.int (-i)) := fun k => by
  show a l h _ = _
  rw [ha, ← ineg_eq]; rfl
theorem ev_item {n j : Nat} {xs : List V} (ha : Ev a l h (.ref n)) (hb : Ev b l h (.int (j : Int))) (hn : h.t.get n = .list xs) (hx : xs[j]? = some v) (hv : v ≠ .unb) (hj : j ≤ 1000000) : Ev (xsub a b) l h v := fun k => by
  show a l h _ = _
  rw [ha]
  show b l h _ = _
  rw [hb]
  refine (sub_so (getS h n) _ _ _ _).trans ?_
  show objCase (getT h n) _ _ _ = _
  rw [show getT h n = .list xs from hn]
  show bcase (Nat.ble j 1000000) (known (getV xs j) _) false = _
  rw [show Nat.ble j 1000000 = true from Nat.ble_eq_true_of_le hj, getV_eq, hx]
  exact known_eq hv (fun v => k v h)
theorem ev_attr {n j : Nat} {fs : List V} (ha : Ev a l h (.ref n)) (hn : h.t.get n = .inst fs) (hx : getV fs j = v) (hv : v ≠ .unb) : Ev (xattr a j) l h v := fun k => by
  show a l h _ = _
  rw [ha]
  show objCase (getT h n) _ _ _ = _
  rw [show getT h n = .inst fs from hn]
  show known (getV fs j) (fun v => k v h) = _
  rw [hx]; exact known_eq hv (fun v => k v h)
theorem evs_nil : Evs enil l h [] := fun _ => rfl
theorem evs_cons (ha : Ev a l h v) (hr : Evs r l h vs) : Evs (econs a r) l h (v :: vs) := fun k => by
  show a l h _ = _
  rw [ha]
  show r l h _ = _
  rw [hr]
theorem ev_call {f : Fn} (hr : Evs r l h vs) (hf : ∀ k, f vs h k = k v h) : Ev (xcall f r) l h v := fun k => by
  show r l h _ = _
  rw [hr]; exact hf k
variable {kn : KN} {kr : KR} {kb kc : KN}
theorem run_set {n : Nat} (ha : Ev a l h v) : sset n a l h kn kr kb kc = kn (setV v l n) h := by
  show a l h _ = _
  rw [ha, setK_eq]
theorem run_ret (ha : Ev a l h v) : sret a l h kn kr kb kc = kr v h := ha _
theorem run_if {t : Bool} {s₁ s₂ : XS} (ha : Ev a l h (.bool t)) : sif a s₁ s₂ l h kn kr kb kc = bcase t (s₁ l h kn kr kb kc) (s₂ l h kn kr kb kc) := by
  show a l h _ = _
  rw [ha]; rfl
end

-- the board's record
structure Geo (h : H) (g : Nat) (fl rk sz : Int) : Prop where
  at_ : ∃ fs, h.t.get g = .inst fs ∧ getV fs 0 = .int fl ∧ getV fs 1 = .int rk ∧ getV fs 2 = .int sz
def flip (fl rk x : Int) : Int := (rk - 1 - x / fl) * fl + x % fl
def mir (fl x : Int) : Int := x - x % fl + fl - 1 - x % fl
section
variable {h : H} {g : Nat} {fl rk sz x : Int}
theorem run_flip (G : Geo h g fl rk sz) (hf : fl = 2 ∨ fl = 3) (h3 : 0 < rk) (h4 : rk ≤ 100) (h5 : -1000 ≤ x) (h6 : x ≤ 1000) (k : V → H → Bool) : f_flipped [.ref g, .int x] h k = k (.int (flip fl rk x)) h := by
  obtain ⟨fs, e, e0, e1, e2⟩ := G.at_
  have hd : -1000 ≤ x / fl ∧ x / fl ≤ 1000 := by rcases hf with rfl | rfl <;> omega
  show b_flipped [.ref g, .int x, .unb] h (fun _ h => k .none h) k (fun _ _ => false) (fun _ _ => false) = _
  have f0 : ∀ l, getV l 0 = .ref g → Ev (xattr (xloc 0) 0) l h (.int fl) := fun l q => ev_attr (ev_ref q) e e0 (fun z => by cases z)
  have f1 : ∀ l, getV l 0 = .ref g → Ev (xattr (xloc 0) 1) l h (.int rk) := fun l q => ev_attr (ev_ref q) e e1 (fun z => by cases z)
  have s0 := run_set (h := h) (l := [.ref g, .int x, .unb]) (n := 2) (kn := fun l h => sret (xbin oadd (xbin omul (xbin osub (xbin osub (xattr (xloc 0) 1) (xlit (.int (.ofNat 1)))) (xloc 2)) (xattr (xloc 0) 0)) (xbin omod (xloc 1) (xattr (xloc 0) 0))) l h (fun _ h => k .none h) k (fun _ _ => false) (fun _ _ => false)) (kr := k) (kb := fun _ _ => false) (kc := fun _ _ => false)
    (ev_bin (ev_int (i := 1) rfl) (f0 _ rfl) (o_div (by omega) (by omega)))
  refine s0.trans (run_ret (ev_bin (ev_bin (ev_bin (ev_bin (f1 _ rfl) ev_lit o_sub) (ev_int (i := 2) rfl) o_sub) (f0 _ rfl) (o_mul (by show rk - 1 - x / fl < _; omega) (by show _ ≤ rk - 1 - x / fl; omega))) (ev_bin (ev_int (i := 1) rfl) (f0 _ rfl) (o_mod (by omega) (by omega))) o_add))
theorem run_turn (hf : fl = 2 ∨ fl = 3) (h3 : 0 < rk) (h4 : rk ≤ 100) (h5 : -1000 ≤ x) (h6 : x ≤ 1000) (k : V → H → Bool) : f__law_turn [.int fl, .int rk, .int x] h k = k (.int (flip fl rk x)) h := by
  have hd : -1000 ≤ x / fl ∧ x / fl ≤ 1000 := by rcases hf with rfl | rfl <;> omega
  show b__law_turn [.int fl, .int rk, .int x] h (fun _ h => k .none h) k (fun _ _ => false) (fun _ _ => false) = _
  exact run_ret (ev_bin (ev_bin (ev_bin (ev_bin (ev_int (i := 1) rfl) ev_lit o_sub) (ev_bin (ev_int (i := 2) rfl) (ev_int (i := 0) rfl) (o_div (by omega) (by omega))) o_sub) (ev_int (i := 0) rfl) (o_mul (by show rk - 1 - x / fl < _; omega) (by show _ ≤ rk - 1 - x / fl; omega))) (ev_bin (ev_int (i := 2) rfl) (ev_int (i := 0) rfl) (o_mod (by omega) (by omega))) o_add)
theorem run_mir (hf : fl = 2 ∨ fl = 3) (k : V → H → Bool) : f__law_mirror [.int fl, .int x] h k = k (.int (mir fl x)) h := by
  show b__law_mirror [.int fl, .int x] h (fun _ h => k .none h) k (fun _ _ => false) (fun _ _ => false) = _
  exact run_ret (ev_bin (ev_bin (ev_bin (ev_bin (ev_int (i := 1) rfl) (ev_bin (ev_int (i := 1) rfl) (ev_int (i := 0) rfl) (o_mod (by omega) (by omega))) o_sub) (ev_int (i := 0) rfl) o_add) ev_lit o_sub) (ev_bin (ev_int (i := 1) rfl) (ev_int (i := 0) rfl) (o_mod (by omega) (by omega))) o_sub)
theorem c_le (i j : Int) : cle i j = decide (i ≤ j) := by
  unfold cle
  rw [bnt_eq, ilt_eq]
  by_cases q : i ≤ j
  · rw [decide_eq_true q, decide_eq_false (by omega)]; rfl
  · rw [decide_eq_false q, decide_eq_true (by omega)]; rfl
theorem c_lt (i j : Int) : clt i j = decide (i < j) := ilt_eq i j
theorem c_eq (i j : Int) : ceq i j = decide (i = j) := by
  unfold ceq
  rw [ieq_eq]
  by_cases q : i = j
  · rw [decide_eq_true q]; subst q; exact beq_self_eq_true i
  · rw [decide_eq_false q]; exact beq_false_of_ne q
theorem c_ne (i j : Int) : cne i j = decide (i ≠ j) := by
  unfold cne
  rw [bnt_eq, show ieq i j = ceq i j from rfl, c_eq]
  by_cases q : i = j <;> simp [q]

def inR (a x b : Int) : Bool := decide (a ≤ x) && decide (x < b)
theorem inR_iff {a x b : Int} : inR a x b = true ↔ a ≤ x ∧ x < b := by unfold inR; simp
theorem ev_in {a b c : XE} {l : Loc} {i j m : Int} (ha : Ev a l h (.int i)) (hb : Ev b l h (.int j)) (hc : Ev c l h (.int m)) : Ev (xcmp2 cle clt a b c) l h (.bool (inR i j m)) :=
  ev_cmp2 ha hb hc (by rw [c_le, c_lt]; rfl)

variable {vb : V} {sd st pw wk : Int} {k : V → H → Bool}
theorem run_for0 (hv : vb ≠ .unb) : f_probe_for [.ref g, vb, .int 0, .int sd, .int st, .int pw, .int wk] h k = f_probe_kpk [.ref g, vb, .int sd, .int st, .int pw, .int wk] h k := by
  cases vb <;> first | rfl | exact absurd rfl hv
theorem run_forX0 (hv : vb ≠ .unb) : f_probe_forX true [.ref g, vb, .int 0, .int sd, .int st, .int pw, .int wk] h k = f_probe_kpkX true [.ref g, vb, .int sd, .int st, .int pw, .int wk] h k := by
  cases vb <;> first | rfl | exact absurd rfl hv
theorem args1 (G : Geo h g fl rk sz) (hf : fl = 2 ∨ fl = 3) (h3 : 0 < rk) (h4 : rk ≤ 100) (hv : vb ≠ .unb) (b1 : -1000 ≤ st ∧ st ≤ 1000) (b2 : -1000 ≤ pw ∧ pw ≤ 1000) (b3 : -1000 ≤ wk ∧ wk ≤ 1000) :
    Evs (econs (xloc 0) (econs (xloc 1) (econs (xbin osub (xlit (.int (.ofNat 1))) (xloc 3)) (econs (xcall f_flipped (econs (xloc 0) (econs (xloc 4) enil))) (econs (xcall f_flipped (econs (xloc 0) (econs (xloc 5) enil))) (econs (xcall f_flipped (econs (xloc 0) (econs (xloc 6) enil))) enil))))))
      [.ref g, vb, .int 1, .int sd, .int st, .int pw, .int wk] h [.ref g, vb, .int (1 - sd), .int (flip fl rk st), .int (flip fl rk pw), .int (flip fl rk wk)] :=
  evs_cons (ev_ref (i := 0) rfl) (evs_cons (ev_loc (i := 1) rfl hv) (evs_cons (ev_bin ev_lit (ev_int (i := 3) rfl) o_sub) (evs_cons (ev_call (evs_cons (ev_ref (i := 0) rfl) (evs_cons (ev_int (i := 4) rfl) evs_nil)) (run_flip G hf h3 h4 b1.1 b1.2))
    (evs_cons (ev_call (evs_cons (ev_ref (i := 0) rfl) (evs_cons (ev_int (i := 5) rfl) evs_nil)) (run_flip G hf h3 h4 b2.1 b2.2)) (evs_cons (ev_call (evs_cons (ev_ref (i := 0) rfl) (evs_cons (ev_int (i := 6) rfl) evs_nil)) (run_flip G hf h3 h4 b3.1 b3.2)) evs_nil)))))
theorem run_for1 (G : Geo h g fl rk sz) (hf : fl = 2 ∨ fl = 3) (h3 : 0 < rk) (h4 : rk ≤ 100) (hv : vb ≠ .unb) (b1 : -1000 ≤ st ∧ st ≤ 1000) (b2 : -1000 ≤ pw ∧ pw ≤ 1000) (b3 : -1000 ≤ wk ∧ wk ≤ 1000) :
    f_probe_for [.ref g, vb, .int 1, .int sd, .int st, .int pw, .int wk] h k = f_probe_kpk [.ref g, vb, .int (1 - sd), .int (flip fl rk st), .int (flip fl rk pw), .int (flip fl rk wk)] h k :=
  args1 G hf h3 h4 hv b1 b2 b3 (fun vs h => f_probe_kpk vs h k)
theorem run_forX1 (G : Geo h g fl rk sz) (hf : fl = 2 ∨ fl = 3) (h3 : 0 < rk) (h4 : rk ≤ 100) (hv : vb ≠ .unb) (b1 : -1000 ≤ st ∧ st ≤ 1000) (b2 : -1000 ≤ pw ∧ pw ≤ 1000) (b3 : -1000 ≤ wk ∧ wk ≤ 1000) :
    f_probe_forX true [.ref g, vb, .int 1, .int sd, .int st, .int pw, .int wk] h k = f_probe_kpkX true [.ref g, vb, .int (1 - sd), .int (flip fl rk st), .int (flip fl rk pw), .int (flip fl rk wk)] h k :=
  args1 G hf h3 h4 hv b1 b2 b3 (fun vs h => f_probe_kpkX true vs h k)

noncomputable abbrev askX : XS := sif (xnot (xcmp2 cle clt (xlit (.int (.ofNat 0))) (xloc 6) (xattr (xloc 0) 2))) (sraiseX true (xloc 6)) spass
theorem run_askX (G : Geo h g fl rk sz) {l : Loc} {q : Int} (h0 : getV l 0 = .ref g) (h6 : getV l 6 = .int q) {kn : KN} {kr : KR} {kb kc : KN} : askX l h kn kr kb kc = bcase (inR 0 q sz) (kn l h) true := by
  obtain ⟨fs, e, e0, e1, e2⟩ := G.at_
  refine (run_if (t := !inR 0 q sz) (ev_not (ev_in ev_lit (ev_int h6) (ev_attr (ev_ref h0) e e2 (fun z => by cases z))) rfl)).trans ?_
  cases inR 0 q sz with
  | true => rfl
  | false =>
    show sraiseX true (xloc 6) l h kn kr kb kc = true
    exact ev_int h6 (fun v _ => asInt v fun _ => true)
-- off the board: it raises
theorem kpkX_bad (G : Geo h g fl rk sz) (hb : (inR 0 st sz && inR 0 wk sz && inR fl pw (sz - fl)) = false) : f_probe_kpkX true [.ref g, vb, .int sd, .int st, .int pw, .int wk] h k = true := by
  obtain ⟨fs, e, e0, e1, e2⟩ := G.at_
  let rest : XS := (sseq (sif (xnot (xcmp2 cle clt (xattr (xloc 0) 0) (xloc 4) (xbin osub (xattr (xloc 0) 2) (xattr (xloc 0) 0)))) (sraiseX true (xloc 4)) spass)
    (sseq (sif (xcmp cge (xbin omod (xloc 4) (xattr (xloc 0) 0)) (xcall f_pawn_files (econs (xloc 0) enil)))
      (sseq (sset 3 (xcall f_mirrored (econs (xloc 0) (econs (xloc 3) enil)))) (sseq (sset 4 (xcall f_mirrored (econs (xloc 0) (econs (xloc 4) enil)))) (sset 5 (xcall f_mirrored (econs (xloc 0) (econs (xloc 5) enil)))))) spass)
      (sret (xsub (xloc 1) (xcall f_kpk_index (econs (xloc 0) (econs (xloc 2) (econs (xloc 3) (econs (xloc 4) (econs (xloc 5) enil)))))))))) 
  let kN : KN := fun l h => rest l h (fun _ h => k .none h) k (fun _ _ => false) (fun _ _ => false)
  have e0 : f_probe_kpkX true [.ref g, vb, .int sd, .int st, .int pw, .int wk] h k =
      askX [.ref g, vb, .int sd, .int st, .int pw, .int wk, .int st] h (fun l h => tvar 6 (.int wk) l fun l => askX l h kN k kN kN) k kN (fun l h => tvar 6 (.int wk) l fun l => askX l h kN k kN kN) := rfl
  rw [e0, run_askX G rfl rfl]
  cases c1 : inR 0 st sz with
  | false => rfl
  | true =>
    show askX [.ref g, vb, .int sd, .int st, .int pw, .int wk, .int wk] h kN k kN kN = true
    rw [run_askX G rfl rfl]
    cases c2 : inR 0 wk sz with
    | false => rfl
    | true =>
      rw [c1, c2, Bool.true_and, Bool.true_and] at hb
      have c3 : Ev (xnot (xcmp2 cle clt (xattr (xloc 0) 0) (xloc 4) (xbin osub (xattr (xloc 0) 2) (xattr (xloc 0) 0)))) [.ref g, vb, .int sd, .int st, .int pw, .int wk, .int wk] h (.bool true) :=
        ev_not (ev_in (ev_attr (ev_ref (i := 0) rfl) e (by assumption) (fun z => by cases z)) (ev_int (i := 4) rfl) (ev_bin (ev_attr (ev_ref (i := 0) rfl) e e2 (fun z => by cases z)) (ev_attr (ev_ref (i := 0) rfl) e (by assumption) (fun z => by cases z)) o_sub)) (by rw [hb]; rfl)
      exact (run_if c3).trans rfl
end
end Kp
end
-- part KpTurn
section
set_option autoImplicit false
set_option linter.unusedVariables false
namespace Kp

def Shape (fl rk sz : Int) : Prop := (fl = 2 ∧ rk = 3 ∧ sz = 6) ∨ (fl = 2 ∧ rk = 4 ∧ sz = 8) ∨ (fl = 3 ∧ rk = 3 ∧ sz = 9) ∨ (fl = 2 ∧ rk = 5 ∧ sz = 10)
def LC (a0 a6 vb a9 a11 : V) (g : Nat) (fl rk sz col : Int) (lc : Bool) (t : List V) : Loc := a0 :: .ref 0 :: .int fl :: .int rk :: .int sz :: .bool lc :: a6 :: .ref g :: vb :: a9 :: .int col :: a11 :: t
noncomputable def weakL (l : Loc) : Loc := l.take 12 ++ tail14 (getV l 13) (getV l 14) (getV l 15) (getV l 16) (getV l 21)
noncomputable def b_812 : XS := sseq b_loop_8 (sseq b_loop_9 (sseq b_loop_10 (sseq b_loop_11 b_loop_12)))
noncomputable def b_012 : XS := sseq b_loop_0 (sseq b_loop_1 (sseq b_loop_2 (sseq b_loop_3 (sseq b_loop_4 (sseq b_loop_5 (sseq b_loop_6 (sseq b_loop_7 b_812)))))))
section
variable {fl rk sz x : Int}
theorem shape_f (s : Shape fl rk sz) : fl = 2 ∨ fl = 3 := by rcases s with ⟨rfl, rfl, rfl⟩ | ⟨rfl, rfl, rfl⟩ | ⟨rfl, rfl, rfl⟩ | ⟨rfl, rfl, rfl⟩ <;> simp
theorem shape_r (s : Shape fl rk sz) : 0 < rk ∧ rk ≤ 100 := by rcases s with ⟨rfl, rfl, rfl⟩ | ⟨rfl, rfl, rfl⟩ | ⟨rfl, rfl, rfl⟩ | ⟨rfl, rfl, rfl⟩ <;> omega
theorem shape_z (s : Shape fl rk sz) : 6 ≤ sz ∧ sz ≤ 10 := by rcases s with ⟨rfl, rfl, rfl⟩ | ⟨rfl, rfl, rfl⟩ | ⟨rfl, rfl, rfl⟩ | ⟨rfl, rfl, rfl⟩ <;> omega
theorem inR_eq {a b c d e f : Int} (h : (a ≤ b ∧ b < c) ↔ (d ≤ e ∧ e < f)) : inR a b c = inR d e f := by
  rw [Bool.eq_iff_iff, inR_iff, inR_iff]; exact h
theorem flip_sq (s : Shape fl rk sz) (h1 : -1 ≤ x) (h2 : x ≤ sz) : inR 0 (flip fl rk x) sz = inR 0 x sz := by
  apply inR_eq
  unfold flip
  rcases s with ⟨rfl, rfl, rfl⟩ | ⟨rfl, rfl, rfl⟩ | ⟨rfl, rfl, rfl⟩ | ⟨rfl, rfl, rfl⟩ <;> omega
theorem flip_pw (s : Shape fl rk sz) (h1 : 0 ≤ x) (h2 : x < sz + fl) : inR fl (flip fl rk x) (sz - fl) = inR fl x (sz - fl) := by
  apply inR_eq
  unfold flip
  rcases s with ⟨rfl, rfl, rfl⟩ | ⟨rfl, rfl, rfl⟩ | ⟨rfl, rfl, rfl⟩ | ⟨rfl, rfl, rfl⟩ <;> omega
theorem flip_col (s : Shape fl rk sz) : flip fl rk x % fl = x % fl := by
  unfold flip
  rcases s with ⟨rfl, rfl, rfl⟩ | ⟨rfl, rfl, rfl⟩ | ⟨rfl, rfl, rfl⟩ | ⟨rfl, rfl, rfl⟩ <;> omega
end
section
variable {l : Loc} {h : H} {kn : KN} {kr : KR} {kb kc : KN} {X : Bool}
theorem run_seq {a b : XS} (e : a l h (fun l h => b l h kn kr kb kc) kr kb kc = X) : sseq a b l h kn kr kb kc = X := e
theorem run_setL {a : XE} {n : Nat} {v : V} {l' : Loc} (ev : Ev a l h v) (el : setV v l n = l') (e : kn l' h = X) : sset n a l h kn kr kb kc = X := by rw [run_set ev, el]; exact e
theorem run_setC {f : Fn} {r : XL} {vs : List V} {n : Nat} (er : Evs r l h vs) (e : f vs h (fun v h => kn (setV v l n) h) = X) : sset n (xcall f r) l h kn kr kb kc = X := by
  have : sset n (xcall f r) l h kn kr kb kc = f vs h (fun v h => setK v l n fun l => kn l h) := er _
  rw [this, ← e]
  congr 1
  funext v h'
  rw [setK_eq]
theorem run_ifT {c : XE} {s₁ s₂ : XS} (ev : Ev c l h (.bool true)) (e : s₁ l h kn kr kb kc = X) : sif c s₁ s₂ l h kn kr kb kc = X := by rw [run_if ev]; exact e
theorem run_ifF {c : XE} {s₁ s₂ : XS} (ev : Ev c l h (.bool false)) (e : s₂ l h kn kr kb kc = X) : sif c s₁ s₂ l h kn kr kb kc = X := by rw [run_if ev]; exact e
theorem run_pass (e : kn l h = X) : spass l h kn kr kb kc = X := e
theorem run_cont (e : kc l h = X) : scont l h kn kr kb kc = X := e
theorem stry_f (hb : getV l 20 = .bool false) (e : sset 21 (xcall f_probe_for tryArgs) l h kn kr kb kc = X) : stry l h kn kr kb kc = X := by
  have : stry l h kn kr kb kc = truthy (getV l 20) (fun b => bcase b (bcase (xcall (f_probe_forX true) tryArgs l (frzH h) fun _ _ => false) (kn l h) false) (sset 21 (xcall f_probe_for tryArgs) l h kn kr kb kc)) := rfl
  rw [this, hb]; exact e
theorem stry_t (hb : getV l 20 = .bool true) {vs : List V} (er : Evs tryArgs l (frzH h) vs) (hx : f_probe_forX true vs (frzH h) (fun _ _ => false) = true) (e : kn l h = true) : stry l h kn kr kb kc = true := by
  have : stry l h kn kr kb kc = truthy (getV l 20) (fun b => bcase b (bcase (xcall (f_probe_forX true) tryArgs l (frzH h) fun _ _ => false) (kn l h) false) (sset 21 (xcall f_probe_for tryArgs) l h kn kr kb kc)) := rfl
  rw [this, hb]
  have e2 : xcall (f_probe_forX true) tryArgs l (frzH h) (fun _ _ => false) = true := (er _).trans hx
  show bcase (xcall (f_probe_forX true) tryArgs l (frzH h) fun _ _ => false) (kn l h) false = true
  rw [e2]; exact e
end
section
variable {a0 a6 vb a9 a11 a12 a17 a18 a20 a21 a22 a23 a24 a25 : V} {g : Nat} {fl rk sz col sd st pw wk ow : Int} {lc : Bool} {h : H} {kN : KN} {kc : KN}
theorem Geo.frz (G : Geo h g fl rk sz) : Geo (frzH h) g fl rk sz := by cases h; exact ⟨G.at_⟩
theorem p2_bool (s : Shape fl rk sz) (G : Geo h g fl rk sz) (hv : vb ≠ .unb) (h1 : -1 ≤ st ∧ st ≤ sz) (h2 : -1 ≤ wk ∧ wk ≤ sz) (h3 : 0 ≤ pw ∧ pw < sz + fl) (hsd : sd = 0 ∨ sd = 1) (how : ow = 0 ∨ ow = 1) (hcol : pw % fl = col ∨ pw % fl = fl - 1 - col)
    (hkc : ∀ t, t.length = 14 → kc (LC a0 a6 vb a9 a11 g fl rk sz col lc t) h = true)
    (hQ : ∀ sd st pw wk : Int, sd = 0 ∨ sd = 1 → inR 0 st sz = true → inR 0 wk sz = true → inR fl pw (sz - fl) = true → pw % fl = col ∨ pw % fl = fl - 1 - col →
      f_probe_kpk [.ref g, vb, .int sd, .int st, .int pw, .int wk] h (fun v h' => kN (LC a0 a6 vb a9 a11 g fl rk sz col lc (tail14 (.int sd) (.int st) (.int pw) (.int wk) v)) h') = true) :
    b_812 (LC a0 a6 vb a9 a11 g fl rk sz col lc [a12, .int sd, .int st, .int pw, .int wk, a17, a18, .int ow, a20, a21, a22, a23, a24, a25]) h (fun l h => kN (weakL l) h) noR no2 kc = true := by
  have hf := shape_f s
  have hr := shape_r s
  have hz := shape_z s
  have f1 := flip_sq s h1.1 h1.2
  have f2 := flip_sq s h2.1 h2.2
  have f3 := flip_pw s h3.1 h3.2
  unfold b_812
  refine run_seq ?_
  unfold b_loop_8
  refine run_setL (v := .bool (!(inR 0 st sz && (inR 0 wk sz && inR fl pw (sz - fl))))) (l' := (LC a0 a6 vb a9 a11 g fl rk sz col lc [a12, .int sd, .int st, .int pw, .int wk, a17, a18, .int ow, .bool (!(inR 0 st sz && (inR 0 wk sz && inR fl pw (sz - fl)))), a21, a22, a23, a24, a25]))
    (ev_not (ev_and (ev_in ev_lit (ev_int (i := 14) rfl) (ev_int (i := 4) rfl)) (ev_and (ev_in ev_lit (ev_int (i := 16) rfl) (ev_int (i := 4) rfl)) (ev_in (ev_int (i := 2) rfl) (ev_int (i := 15) rfl) (ev_bin (ev_int (i := 4) rfl) (ev_int (i := 2) rfl) o_sub)))) rfl) rfl ?_
  generalize hbad : (!(inR 0 st sz && (inR 0 wk sz && inR fl pw (sz - fl)))) = bad
  refine run_seq ?_
  unfold b_loop_9
  refine run_setL (v := .int (-1)) (l' := (LC a0 a6 vb a9 a11 g fl rk sz col lc [a12, .int sd, .int st, .int pw, .int wk, a17, a18, .int ow, .bool bad, .int (-1), a22, a23, a24, a25])) (ev_neg ev_lit) rfl ?_
  refine run_seq ?_
  unfold b_loop_10
  have args : ∀ h', Evs tryArgs (LC a0 a6 vb a9 a11 g fl rk sz col lc [a12, .int sd, .int st, .int pw, .int wk, a17, a18, .int ow, .bool bad, .int (-1), a22, a23, a24, a25]) h' [.ref g, vb, .int ow, .int sd, .int st, .int pw, .int wk] := fun h' =>
    evs_cons (ev_ref (i := 7) rfl) (evs_cons (ev_loc (i := 8) rfl hv) (evs_cons (ev_int (i := 19) rfl) (evs_cons (ev_int (i := 13) rfl) (evs_cons (ev_int (i := 14) rfl) (evs_cons (ev_int (i := 15) rfl) (evs_cons (ev_int (i := 16) rfl) evs_nil))))))
  cases bad with
  | true =>
    have hb : (inR 0 st sz && inR 0 wk sz && inR fl pw (sz - fl)) = false := by
      rw [Bool.and_assoc]
      revert hbad
      cases (inR 0 st sz && (inR 0 wk sz && inR fl pw (sz - fl))) <;> simp
    refine stry_t rfl (args _) ?_ ?_
    · rcases how with rfl | rfl
      · rw [run_forX0 hv]; exact kpkX_bad G.frz hb
      · rw [run_forX1 G.frz hf hr.1 hr.2 hv (by omega) (by omega) (by omega)]
        refine kpkX_bad G.frz ?_
        rw [f1, f2, f3]; exact hb
    · skip
      refine run_seq ?_
      unfold b_loop_11
      refine run_ifT (ev_bool (i := 20) rfl) (run_seq (run_ifF (ev_cmp (i := -1) (j := -1) (ev_int (i := 21) rfl) (ev_neg ev_lit) (by rw [c_ne]; rfl)) (run_pass (run_cont (hkc _ rfl)))))
  | false =>
    have hg : inR 0 st sz = true ∧ inR 0 wk sz = true ∧ inR fl pw (sz - fl) = true := by
      revert hbad
      cases inR 0 st sz <;> cases inR 0 wk sz <;> cases inR fl pw (sz - fl) <;> simp
    refine stry_f rfl (run_setC (args _) ?_)
    rcases how with rfl | rfl
    · rw [run_for0 hv]
      refine Eq.trans (congrArg (f_probe_kpk _ h) ?_) (hQ sd st pw wk hsd hg.1 hg.2.1 hg.2.2 hcol)
      funext v h'
      rw [show setV v (LC a0 a6 vb a9 a11 g fl rk sz col lc [a12, .int sd, .int st, .int pw, .int wk, a17, a18, .int 0, .bool false, .int (-1), a22, a23, a24, a25]) 21 = (LC a0 a6 vb a9 a11 g fl rk sz col lc [a12, .int sd, .int st, .int pw, .int wk, a17, a18, .int 0, .bool false, v, a22, a23, a24, a25]) from rfl]
      refine run_seq ?_
      unfold b_loop_11
      refine run_ifF (ev_bool (i := 20) rfl) (run_pass ?_)
      unfold b_loop_12
      refine run_ifF (ev_cmp (i := 0) (j := 1) (ev_int (i := 19) rfl) ev_lit (by rw [c_eq]; rfl)) (run_pass ?_)
      rfl
    · rw [run_for1 G hf hr.1 hr.2 hv (by omega) (by omega) (by omega)]
      refine Eq.trans (congrArg (f_probe_kpk _ h) ?_) (hQ (1 - sd) (flip fl rk st) (flip fl rk pw) (flip fl rk wk) (by omega) (f1.trans hg.1) (f2.trans hg.2.1) (f3.trans hg.2.2) (by rw [flip_col s]; exact hcol))
      funext v h'
      rw [show setV v (LC a0 a6 vb a9 a11 g fl rk sz col lc [a12, .int sd, .int st, .int pw, .int wk, a17, a18, .int 1, .bool false, .int (-1), a22, a23, a24, a25]) 21 = (LC a0 a6 vb a9 a11 g fl rk sz col lc [a12, .int sd, .int st, .int pw, .int wk, a17, a18, .int 1, .bool false, v, a22, a23, a24, a25]) from rfl]
      refine run_seq ?_
      unfold b_loop_11
      refine run_ifF (ev_bool (i := 20) rfl) (run_pass ?_)
      unfold b_loop_12
      have ht : ∀ x : Int, -1000 ≤ x → x ≤ 1000 → ∀ k, f__law_turn [.int fl, .int rk, .int x] h' k = k (.int (flip fl rk x)) h' := fun x b1 b2 k => run_turn hf hr.1 hr.2 b1 b2 k
      refine run_ifT (ev_cmp (i := 1) (j := 1) (ev_int (i := 19) rfl) ev_lit (by rw [c_eq]; rfl)) (run_seq ?_)
      refine run_setL (l' := (LC a0 a6 vb a9 a11 g fl rk sz col lc [a12, .int sd, .int (flip fl rk st), .int pw, .int wk, a17, a18, .int 1, .bool false, v, a22, a23, a24, a25])) (ev_call (evs_cons (ev_int (i := 2) rfl) (evs_cons (ev_int (i := 3) rfl) (evs_cons (ev_int (i := 14) rfl) evs_nil))) (ht st (by omega) (by omega))) rfl (run_seq ?_)
      refine run_setL (l' := (LC a0 a6 vb a9 a11 g fl rk sz col lc [a12, .int sd, .int (flip fl rk st), .int (flip fl rk pw), .int wk, a17, a18, .int 1, .bool false, v, a22, a23, a24, a25])) (ev_call (evs_cons (ev_int (i := 2) rfl) (evs_cons (ev_int (i := 3) rfl) (evs_cons (ev_int (i := 15) rfl) evs_nil))) (ht pw (by omega) (by omega))) rfl (run_seq ?_)
      refine run_setL (l' := (LC a0 a6 vb a9 a11 g fl rk sz col lc [a12, .int sd, .int (flip fl rk st), .int (flip fl rk pw), .int (flip fl rk wk), a17, a18, .int 1, .bool false, v, a22, a23, a24, a25])) (ev_call (evs_cons (ev_int (i := 2) rfl) (evs_cons (ev_int (i := 3) rfl) (evs_cons (ev_int (i := 16) rfl) evs_nil))) (ht wk (by omega) (by omega))) rfl ?_
      refine run_setL (l' := (LC a0 a6 vb a9 a11 g fl rk sz col lc [a12, .int (1 - sd), .int (flip fl rk st), .int (flip fl rk pw), .int (flip fl rk wk), a17, a18, .int 1, .bool false, v, a22, a23, a24, a25])) (ev_bin (i := 1) (j := sd) ev_lit (ev_int (i := 13) rfl) o_sub) rfl ?_
      rfl
theorem p1_bool (s : Shape fl rk sz) (G : Geo h g fl rk sz) (hv : vb ≠ .unb) {a13 a14 a15 a16 a19 : V} {xs : List Int} {at_ : Nat} (hs : h.t.get 0 = .list (xs.map V.int)) (hat : at_ + 3 < xs.length) (hlen : xs.length ≤ 100) (hc : 0 ≤ col ∧ col < fl)
    (hkc : ∀ t, t.length = 14 → kc (LC a0 a6 vb a9 a11 g fl rk sz col lc t) h = true)
    (hQ : ∀ sd st pw wk : Int, sd = 0 ∨ sd = 1 → inR 0 st sz = true → inR 0 wk sz = true → inR fl pw (sz - fl) = true → pw % fl = col ∨ pw % fl = fl - 1 - col →
      f_probe_kpk [.ref g, vb, .int sd, .int st, .int pw, .int wk] h (fun v h' => kN (LC a0 a6 vb a9 a11 g fl rk sz col lc (tail14 (.int sd) (.int st) (.int pw) (.int wk) v)) h') = true) :
    b_012 (LC a0 a6 vb a9 a11 g fl rk sz col lc [a12, a13, a14, a15, a16, a17, .int (at_ : Int), a19, a20, a21, a22, a23, a24, a25]) h (fun l h => kN (weakL l) h) noR no2 kc = true := by
  have hf := shape_f s
  have hr := shape_r s
  have hz := shape_z s
  obtain ⟨x0, e0⟩ : ∃ x, (xs.map V.int)[at_]? = some (.int x) := ⟨xs[at_], by simp [show at_ < xs.length by omega]⟩
  obtain ⟨x1, e1⟩ : ∃ x, (xs.map V.int)[at_ + 1]? = some (.int x) := ⟨xs[at_ + 1], by simp [show at_ + 1 < xs.length by omega]⟩
  obtain ⟨x2, e2⟩ : ∃ x, (xs.map V.int)[at_ + 2]? = some (.int x) := ⟨xs[at_ + 2], by simp [show at_ + 2 < xs.length by omega]⟩
  obtain ⟨x3, e3⟩ : ∃ x, (xs.map V.int)[at_ + 3]? = some (.int x) := ⟨xs[at_ + 3], by simp [show at_ + 3 < xs.length by omega]⟩
  have b0 : 0 ≤ x0 % (sz + 2) ∧ x0 % (sz + 2) < sz + 2 := ⟨Int.emod_nonneg _ (by omega), Int.emod_lt_of_pos _ (by omega)⟩
  have b1 : 0 ≤ (x1 + 1) % (rk + 1) ∧ (x1 + 1) % (rk + 1) < rk + 1 := ⟨Int.emod_nonneg _ (by omega), Int.emod_lt_of_pos _ (by omega)⟩
  have b2 : 0 ≤ (x2 + sz - 1) % (sz + 2) ∧ (x2 + sz - 1) % (sz + 2) < sz + 2 := ⟨Int.emod_nonneg _ (by omega), Int.emod_lt_of_pos _ (by omega)⟩
  have b3 : x3 % 2 = 0 ∨ x3 % 2 = 1 := by omega
  have b4 : x3 / 2 % 2 = 0 ∨ x3 / 2 % 2 = 1 := by omega
  unfold b_012
  refine run_seq ?_
  unfold b_loop_0
  refine run_setL (v := .int (x0 % (sz + 2))) (l' := (LC a0 a6 vb a9 a11 g fl rk sz col lc [a12, a13, .int (x0 % (sz + 2)), a15, a16, a17, .int (at_ : Int), a19, a20, a21, a22, a23, a24, a25])) (ev_bin (ev_item (ev_ref (i := 1) rfl) (ev_int (i := 18) rfl) hs e0 (fun z => by cases z) (by omega)) (ev_bin (i := sz) (j := 2) (m := sz + 2) (ev_int (i := 4) rfl) ev_lit o_add) (o_mod (by omega) (by omega))) rfl (run_seq ?_)
  generalize x0 % (sz + 2) = st0 at b0 ⊢
  unfold b_loop_1
  refine run_setL (v := .int (((x1 + 1) % (rk + 1)) * fl + col)) (l' := (LC a0 a6 vb a9 a11 g fl rk sz col lc [a12, a13, .int st0, .int (((x1 + 1) % (rk + 1)) * fl + col), a16, a17, .int (at_ : Int), a19, a20, a21, a22, a23, a24, a25])) (ev_bin (ev_bin (ev_bin (ev_bin (ev_item (ev_ref (i := 1) rfl) (ev_bin (m := ((at_ + 1 : Nat) : Int)) (ev_int (i := 18) rfl) ev_lit (fun k => o_add k)) hs e1 (fun z => by cases z) (by omega)) ev_lit o_add) (ev_bin (i := rk) (j := 1) (m := rk + 1) (ev_int (i := 3) rfl) ev_lit o_add) (o_mod (by omega) (by omega))) (ev_int (i := 2) rfl) (o_mul (by show (x1 + 1) % (rk + 1) < _; omega) (by show _ ≤ (x1 + 1) % (rk + 1); omega))) (ev_int (i := 10) rfl) o_add) rfl (run_seq ?_)
  generalize (x1 + 1) % (rk + 1) = q1 at b1 ⊢
  have hpw : (0 ≤ q1 * fl + col ∧ q1 * fl + col < sz + fl) ∧ (q1 * fl + col) % fl = col ∧ (0 ≤ mir fl (q1 * fl + col) ∧ mir fl (q1 * fl + col) < sz + fl) ∧ mir fl (q1 * fl + col) % fl = fl - 1 - col := by
    unfold mir
    rcases s with ⟨rfl, rfl, rfl⟩ | ⟨rfl, rfl, rfl⟩ | ⟨rfl, rfl, rfl⟩ | ⟨rfl, rfl, rfl⟩ <;> omega
  generalize q1 * fl + col = p0 at hpw ⊢
  unfold b_loop_2
  have two : ∀ pw : Int, (0 ≤ pw ∧ pw < sz + fl) → (pw % fl = col ∨ pw % fl = fl - 1 - col) → (sseq b_loop_3 (sseq b_loop_4 (sseq b_loop_5 (sseq b_loop_6 (sseq b_loop_7 b_812))))) (LC a0 a6 vb a9 a11 g fl rk sz col lc [a12, a13, .int st0, .int pw, a16, a17, .int (at_ : Int), a19, a20, a21, a22, a23, a24, a25]) h (fun l h => kN (weakL l) h) noR no2 kc = true := by
    intro pw c1 c2
    refine run_seq ?_
    unfold b_loop_3
    refine run_setL (v := .int ((x2 + sz - 1) % (sz + 2))) (l' := (LC a0 a6 vb a9 a11 g fl rk sz col lc [a12, a13, .int st0, .int pw, .int ((x2 + sz - 1) % (sz + 2)), a17, .int (at_ : Int), a19, a20, a21, a22, a23, a24, a25])) (ev_bin (ev_bin (ev_bin (ev_item (ev_ref (i := 1) rfl) (ev_bin (m := ((at_ + 2 : Nat) : Int)) (ev_int (i := 18) rfl) ev_lit (fun k => o_add k)) hs e2 (fun z => by cases z) (by omega)) (ev_int (i := 4) rfl) o_add) ev_lit o_sub) (ev_bin (i := sz) (j := 2) (m := sz + 2) (ev_int (i := 4) rfl) ev_lit o_add) (o_mod (by omega) (by omega))) rfl (run_seq ?_)
    generalize (x2 + sz - 1) % (sz + 2) = wk0 at b2 ⊢
    unfold b_loop_4
    refine run_setL (v := .int (x3 % 2)) (l' := (LC a0 a6 vb a9 a11 g fl rk sz col lc [a12, .int (x3 % 2), .int st0, .int pw, .int wk0, a17, .int (at_ : Int), a19, a20, a21, a22, a23, a24, a25])) (ev_bin (ev_item (ev_ref (i := 1) rfl) (ev_bin (m := ((at_ + 3 : Nat) : Int)) (ev_int (i := 18) rfl) ev_lit (fun k => o_add k)) hs e3 (fun z => by cases z) (by omega)) ev_lit (o_mod (by decide) (by decide))) rfl (run_seq ?_)
    unfold b_loop_5
    refine run_setL (v := .int (x3 / 2 % 2)) (l' := (LC a0 a6 vb a9 a11 g fl rk sz col lc [a12, .int (x3 % 2), .int st0, .int pw, .int wk0, a17, .int (at_ : Int), .int (x3 / 2 % 2), a20, a21, a22, a23, a24, a25])) (ev_bin (ev_bin (ev_item (ev_ref (i := 1) rfl) (ev_bin (m := ((at_ + 3 : Nat) : Int)) (ev_int (i := 18) rfl) ev_lit (fun k => o_add k)) hs e3 (fun z => by cases z) (by omega)) ev_lit (o_div (by decide) (by decide))) ev_lit (o_mod (by decide) (by decide))) rfl (run_seq ?_)
    generalize x3 % 2 = sd at b3 ⊢
    generalize x3 / 2 % 2 = ow at b4 ⊢
    have three : ∀ st : Int, (-1 ≤ st ∧ st ≤ sz) → (sseq b_loop_7 b_812) (LC a0 a6 vb a9 a11 g fl rk sz col lc [a12, .int sd, .int st, .int pw, .int wk0, a17, .int (at_ : Int), .int ow, a20, a21, a22, a23, a24, a25]) h (fun l h => kN (weakL l) h) noR no2 kc = true := by
      intro st d1
      refine run_seq ?_
      unfold b_loop_7
      by_cases q : wk0 = sz + 1
      · refine run_ifT (ev_cmp (i := wk0) (j := sz + 1) (ev_int (i := 16) rfl) (ev_bin (ev_int (i := 4) rfl) ev_lit o_add) (by rw [c_eq, decide_eq_true q])) ?_
        refine run_setL (l' := (LC a0 a6 vb a9 a11 g fl rk sz col lc [a12, .int sd, .int st, .int pw, .int (-1), a17, .int (at_ : Int), .int ow, a20, a21, a22, a23, a24, a25])) (ev_neg ev_lit) rfl ?_
        exact p2_bool s G hv d1 (by show -1 ≤ -1 ∧ -1 ≤ sz; omega) c1 b3 b4 c2 hkc hQ
      · refine run_ifF (ev_cmp (i := wk0) (j := sz + 1) (ev_int (i := 16) rfl) (ev_bin (ev_int (i := 4) rfl) ev_lit o_add) (by rw [c_eq, decide_eq_false q])) (run_pass ?_)
        exact p2_bool s G hv d1 (by omega) c1 b3 b4 c2 hkc hQ
    unfold b_loop_6
    by_cases q : st0 = sz + 1
    · refine run_ifT (ev_cmp (i := st0) (j := sz + 1) (ev_int (i := 14) rfl) (ev_bin (ev_int (i := 4) rfl) ev_lit o_add) (by rw [c_eq, decide_eq_true q])) ?_
      refine run_setL (l' := (LC a0 a6 vb a9 a11 g fl rk sz col lc [a12, .int sd, .int (-1), .int pw, .int wk0, a17, .int (at_ : Int), .int ow, a20, a21, a22, a23, a24, a25])) (ev_neg ev_lit) rfl ?_
      exact three (-1) (by omega)
    · refine run_ifF (ev_cmp (i := st0) (j := sz + 1) (ev_int (i := 14) rfl) (ev_bin (ev_int (i := 4) rfl) ev_lit o_add) (by rw [c_eq, decide_eq_false q])) (run_pass ?_)
      exact three st0 (by omega)
  by_cases q : x1 / (rk + 1) % 2 = 1
  · refine run_ifT (ev_cmp (i := x1 / (rk + 1) % 2) (j := 1) (ev_bin (ev_bin (ev_item (ev_ref (i := 1) rfl) (ev_bin (m := ((at_ + 1 : Nat) : Int)) (ev_int (i := 18) rfl) ev_lit (fun k => o_add k)) hs e1 (fun z => by cases z) (by omega)) (ev_bin (i := rk) (j := 1) (m := rk + 1) (ev_int (i := 3) rfl) ev_lit o_add) (o_div (by omega) (by omega))) ev_lit (o_mod (by decide) (by decide))) ev_lit (by rw [c_eq, decide_eq_true q])) ?_
    refine run_setL (l' := (LC a0 a6 vb a9 a11 g fl rk sz col lc [a12, a13, .int st0, .int (mir fl p0), a16, a17, .int (at_ : Int), a19, a20, a21, a22, a23, a24, a25])) (ev_call (evs_cons (ev_int (i := 2) rfl) (evs_cons (ev_int (i := 15) rfl) evs_nil)) (fun k => run_mir hf k)) rfl ?_
    exact two _ hpw.2.2.1 (.inr hpw.2.2.2)
  · refine run_ifF (ev_cmp (i := x1 / (rk + 1) % 2) (j := 1) (ev_bin (ev_bin (ev_item (ev_ref (i := 1) rfl) (ev_bin (m := ((at_ + 1 : Nat) : Int)) (ev_int (i := 18) rfl) ev_lit (fun k => o_add k)) hs e1 (fun z => by cases z) (by omega)) (ev_bin (i := rk) (j := 1) (m := rk + 1) (ev_int (i := 3) rfl) ev_lit o_add) (o_div (by omega) (by omega))) ev_lit (o_mod (by decide) (by decide))) ev_lit (by rw [c_eq, decide_eq_false q])) (run_pass ?_)
    exact two _ hpw.1 (.inl hpw.2.1)
end
end Kp
end
-- part KpLaw
section
set_option autoImplicit false
set_option linter.unusedVariables false
set_option maxRecDepth 100000
set_option Elab.async false
namespace Kp
open PySem PySem.W PyProof.Rows PySem.Calls

def loc0 (l : Loc) : Loc := l.take 12 ++ [.unb, .unb, .unb, .unb, .unb, .unb, .unb, .unb, .unb, .unb, .unb, .unb, .unb, .unb]
theorem getV_app (a b : List V) (i : Nat) : getV (a ++ b) i = if i < a.length then getV a i else getV b (i - a.length) := by
  rw [getV_eq, getV_eq, getV_eq, List.getElem?_append]
  split <;> rfl
theorem getV_take (a : List V) (n i : Nat) : getV (a.take n) i = if i < n then getV a i else .unb := by
  rw [getV_eq, getV_eq, List.getElem?_take]
  split <;> rfl
theorem veq_of {a b : V} (h : veq a b = true) (ha : a ≠ .unb) : b = a ∧ (a = .none ∨ (∃ x, a = .bool x) ∨ (∃ x, a = .int x) ∨ ∃ n, a = .ref n) := by
  cases a with
  | unb => exact absurd rfl ha
  | none => cases b <;> first | exact ⟨rfl, .inl rfl⟩ | cases h
  | bool x => cases b with
    | bool y =>
      have h : bcase x y (bnt y) = true := h
      refine ⟨?_, .inr (.inl ⟨x, rfl⟩)⟩
      revert h; cases x <;> cases y <;> first | (intro _; rfl) | (intro h; cases h)
    | _ => cases h
  | int x => cases b with
    | int y =>
      have h : ieq x y = true := h
      rw [ieq_eq] at h
      exact ⟨by rw [eq_of_beq h], .inr (.inr (.inl ⟨x, rfl⟩))⟩
    | _ => cases h
  | ref x => cases b with
    | ref y =>
      have h : Nat.beq x y = true := h
      exact ⟨by rw [Nat.eq_of_beq_eq_true h], .inr (.inr (.inr ⟨x, rfl⟩))⟩
    | _ => cases h
  | tup _ => cases h
  | range _ _ _ => cases h
theorem same_of : ∀ (xs ys : List V) (n i : Nat), same xs n ys = true → i < n → getV xs i ≠ .unb → veq (getV xs i) (getV ys i) = true
  | [], ys, n, i, h, hi, hne => absurd rfl hne
  | x :: xs, ys, 0, i, h, hi, hne => by omega
  | x :: xs, [], n + 1, i, h, hi, hne => by cases h
  | x :: xs, y :: ys, n + 1, i, h, hi, hne => by
    have h : bcase (veq x y) (same xs n ys) false = true := h
    obtain ⟨h1, h2⟩ := bc_of h
    cases i with
    | zero => exact h1
    | succ i => exact same_of xs ys n i h2 (by omega) hne
section
variable {G : Base} {f : Fx} {n : Nat}
theorem SR.weaken {φ : Phi} {η : H} {L : Addr} {loc loc' : Loc} {s : Shared} (S : SR G f φ η L loc s) (h : ∀ i, getV loc' i ≠ .unb → getV loc' i = getV loc i) : SR G f φ η L loc' s := by
  obtain ⟨m, ns, hm⟩ := S.fr
  refine ⟨S.hr, S.above, S.out, S.outF, m, ns, fun i nm a b => ?_⟩
  obtain ⟨u, c, d⟩ := hm i nm a (by rw [← h i b]; exact b)
  exact ⟨u, c, by rw [h i b]; exact d⟩
theorem weakL_keeps (l : Loc) (i : Nat) (h : getV (weakL l) i ≠ .unb) : getV (weakL l) i = getV l i := by
  unfold weakL at h ⊢
  rw [getV_app, getV_take] at h ⊢
  by_cases c : i < (l.take 12).length
  · rw [if_pos c, if_pos (by rw [List.length_take] at c; omega)]
  · rw [if_neg c] at h ⊢
    by_cases c2 : 12 ≤ l.length
    · have e : (l.take 12).length = 12 := by rw [List.length_take]; omega
      rw [e] at h c ⊢
      obtain ⟨j, rfl⟩ : ∃ j, i = 12 + j := ⟨i - 12, by omega⟩
      have e2 : 12 + j - 12 = j := by omega
      rw [e2] at h ⊢
      rcases j with _ | _ | _ | _ | _ | _ | _ | _ | _ | _ | _ | _ | _ | _ | j <;> first | exact absurd rfl h | rfl
    · have e : (l.take 12).length = l.length := by rw [List.length_take]; omega
      rw [e] at h c ⊢
      exfalso
      apply h
      have z : ∀ i, 12 ≤ i → getV l i = .unb := fun i q => getV_ge l i (by omega)
      generalize i - l.length = j
      unfold tail14
      rw [z 13 (by omega), z 14 (by omega), z 15 (by omega), z 16 (by omega), z 21 (by omega)]
      rcases j with _ | _ | _ | _ | _ | _ | _ | _ | _ | _ | _ | _ | _ | _ | j <;> rfl
theorem loc0_keeps (l : Loc) (i : Nat) (h : getV (loc0 l) i ≠ .unb) : getV (loc0 l) i = getV l i ∧ i < 12 := by
  unfold loc0 at h ⊢
  rw [getV_app, getV_take] at h ⊢
  by_cases c : i < (l.take 12).length
  · have : i < 12 := by rw [List.length_take] at c; omega
    rw [if_pos c, if_pos this]; exact ⟨rfl, this⟩
  · rw [if_neg c] at h
    exfalso
    apply h
    generalize i - (l.take 12).length = j
    rcases j with _ | _ | _ | _ | _ | _ | _ | _ | _ | _ | _ | _ | _ | _ | j <;> rfl
theorem SSX.weak {base : Heap} {outer : List Env} {kx : Bool} {m : XS} {st : Stmt} (x : SSX base outer kx G f n m st) : SSX base outer kx G f n (fun l h kn _ _ _ => m (weakL l) h kn noR no2 no2) st :=
  fun A L φ η loc s kn kr kb kc hA hfr hF ap S h => wpAny_mono (x A L φ η (weakL loc) s kn noR no2 no2 hA hfr hF ap (S.weaken (weakL_keeps loc)) h) (fun fl s' z => by
    obtain ⟨φ', η', y, z⟩ := z
    refine ⟨φ', η', y, ?_⟩
    cases fl with
    | next => exact z
    | ret u => obtain ⟨_, _, _, z⟩ := z; cases z
    | brk => obtain ⟨_, _, z⟩ := z; cases z
    | cont => obtain ⟨_, _, z⟩ := z; cases z) fun _ _ z => z

-- one turn of the law's loop
theorem turn_sound {base : Heap} {bodyX : XS} {body : List Stmt} (hbody : ∀ (h0 : Heap) (L : Addr) (k : Nat), BSX base [] false (refz G h0 L k) f n bodyX body)
    {A : Around} {L : Addr} {φ : Phi} {η : H} {loc : Loc} {s : Shared} (hA : Room A n) (hfr : A.frames = some [f.env L]) (S : SR G f φ η L loc s)
    (hb : bodyX loc ⟨η.t, η.n, η.n⟩ (fun l' _ => same loc 12 l') noR no2 (fun l' _ => same loc 12 l') = true) :
    wpAny G.M A (execs body (f.env L)) (fun fl s' => (fl = .next ∨ fl = .cont) ∧ SR G f φ η L (loc0 loc) s' ∧ StepL L φ φ s s') NoE s := by
  have S' := S.refz
  have fin : ∀ (φ' : Phi) (η' : H) (loc' : Loc) (s' : Shared), StepL L φ φ' s s' → SR (refz G s.heap L η.n) f φ' η' L loc' s' → same loc 12 loc' = true → SR G f φ η L (loc0 loc) s' ∧ StepL L φ φ s s' := by
    intro φ' η' loc' s' y S2 hs
    obtain ⟨m, ns, hm⟩ := S2.fr
    have S0 : SR G f φ η L (loc0 loc) s := S.weaken fun i h => (loc0_keeps loc i h).1
    refine S0.back S2.hr.frz y.gens y.drawn y.os ns fun i nm a b => ?_
    obtain ⟨e1, hi⟩ := loc0_keeps loc i b
    rw [e1] at b ⊢
    obtain ⟨e2, hk⟩ := veq_of (same_of loc loc' 12 i hs hi b) b
    obtain ⟨u, c, d⟩ := hm i nm a (by rw [e2]; exact b)
    rw [e2] at d
    refine ⟨u, c, ?_⟩
    rcases hk with hk | ⟨x, hk⟩ | ⟨x, hk⟩ | ⟨x, hk⟩ <;> rw [hk] at d ⊢
    · exact d
    · exact d
    · exact d
    · obtain ⟨m0, ns0, hm0⟩ := S.fr
      obtain ⟨u0, _, d0⟩ := hm0 i nm a b
      rw [hk] at d0
      obtain ⟨a0, dd0, p0, _⟩ := d0
      obtain ⟨a1, dd1, p1, hu⟩ := d
      have p2 := pre_get y.pre p0
      rw [p2] at p1
      cases p1
      exact ⟨a0, dd0, p0, hu⟩
  refine wpAny_mono (hbody s.heap L η.n A L φ ⟨η.t, η.n, η.n⟩ loc s _ _ _ _ hA hfr (fun _ h => by cases h) (fun _ h => by cases h) S' hb) (fun fl s' z => ?_) fun e s' z => ?_
  · obtain ⟨φ', η', y, z⟩ := z
    cases fl with
    | next => obtain ⟨loc', S2, hs⟩ := z; exact ⟨.inl rfl, fin φ' η' loc' s' y S2 hs⟩
    | cont => obtain ⟨loc', S2, hs⟩ := z; exact ⟨.inr rfl, fin φ' η' loc' s' y S2 hs⟩
    | brk => obtain ⟨loc', S2, hs⟩ := z; cases hs
    | ret u => obtain ⟨v, _, _, hs⟩ := z; cases hs
  · exact absurd z.1 (by decide)

-- the loop's body as a combinator of its own
open Classical in
noncomputable def turnX (bodyX : XS) : XS := fun l h kn _ _ kc => decide (bodyX l ⟨h.t, h.n, h.n⟩ (fun l' _ => same l 12 l') noR no2 (fun l' _ => same l 12 l') = true ∧ kn (loc0 l) h = true ∧ kc (loc0 l) h = true)
theorem bsx_turn {base : Heap} {bodyX : XS} {body : List Stmt} (hbody : ∀ (h0 : Heap) (L : Addr) (k : Nat), BSX base [] false (refz G h0 L k) f n bodyX body) : BSX base [] false G f n (turnX bodyX) body := by
  intro A L φ η loc s kn kr kb kc hA hfr hF ap S h
  have h := of_decide_eq_true h
  refine wpAny_mono (turn_sound hbody hA hfr S h.1) (fun fl s' z => ?_) fun _ _ z => z.elim
  obtain ⟨z1, S', y⟩ := z
  refine ⟨φ, η, y, ?_⟩
  rcases z1 with rfl | rfl
  · exact ⟨_, S', h.2.1⟩
  · exact ⟨_, S', h.2.2⟩

-- statements that end the law well
def FinS (G : Base) (f : Fx) (n : Nat) (m : KN) (sts : List Stmt) : Prop :=
  ∀ A L φ η loc s, Room A n → A.frames = some [f.env L] → SR G f φ η L loc s → m loc η = true →
    wpAny G.M A (execs sts (f.env L)) (fun fl s' => fl = .ret (.bool true) ∧ (∀ b o, G.h₀.get? b = some o → s'.heap.get? b = some o) ∧ s'.gens = s.gens ∧ s'.os = s.os) NoE s
theorem FinS.imp {m m' : KN} {sts : List Stmt} (x : FinS G f n m sts) (h : ∀ l η, m' l η = true → m l η = true) : FinS G f n m' sts := fun A L φ η loc s hA hfr S k => x A L φ η loc s hA hfr S (h _ _ k)
theorem fin_cons {m₁ : XS} {m : KN} {st : Stmt} {r : List Stmt} (h₁ : SS G f n m₁ st) (h₂ : FinS G f n m r) : FinS G f n (fun l h => m₁ l h m noR no2 no2) (st :: r) := by
  intro A L φ η loc s hA hfr S h
  refine wpAny_execs_cons (wpAny_mono (h₁ A L φ η loc s m noR no2 no2 hA S h) (fun fl s' x => ?_) fun _ _ z => z)
  obtain ⟨φ', η', st1, y⟩ := x
  cases fl with
  | next =>
    obtain ⟨loc', S', k⟩ := y
    exact wpAny_mono (h₂ A L φ' η' loc' s' hA hfr S' k) (fun fl s'' z => ⟨z.1, z.2.1, z.2.2.1.trans st1.gens, z.2.2.2.trans st1.os⟩) fun _ _ z => z
  | ret u => obtain ⟨_, _, _, z⟩ := y; cases z
  | brk => obtain ⟨_, _, z⟩ := y; cases z
  | cont => obtain ⟨_, _, z⟩ := y; cases z
theorem fin_consX {base : Heap} {m₁ : XS} {m : KN} {st : Stmt} {r : List Stmt} (h₁ : SSX base [] false G f n m₁ st) (h₂ : FinS G f n m r) : FinS G f n (fun l h => m₁ l h m noR no2 no2) (st :: r) := by
  intro A L φ η loc s hA hfr S h
  refine wpAny_execs_cons (wpAny_mono (h₁ A L φ η loc s m noR no2 no2 hA hfr (fun _ h => by cases h) (fun _ h => by cases h) S h) (fun fl s' x => ?_) fun _ _ z => absurd z.1 (by decide))
  obtain ⟨φ', η', st1, y⟩ := x
  cases fl with
  | next =>
    obtain ⟨loc', S', k⟩ := y
    exact wpAny_mono (h₂ A L φ' η' loc' s' hA hfr S' k) (fun fl s'' z => ⟨z.1, z.2.1, z.2.2.1.trans st1.gens, z.2.2.2.trans st1.os⟩) fun _ _ z => z
  | ret u => obtain ⟨_, _, _, z⟩ := y; cases z
  | brk => obtain ⟨_, _, z⟩ := y; cases z
  | cont => obtain ⟨_, _, z⟩ := y; cases z
theorem fin_ret {k : Nat} {p pos : Pos} : FinS G f n (fun _ _ => true) [.Return (some (.Constant (.bool true) k p)) pos] := by
  intro A L φ η loc s hA hfr S h
  refine wpAny_execs_cons (wpAny_Return_some (wpAny_Constant_bool ?_))
  exact ⟨rfl, S.hr.keep, rfl, rfl⟩
end
end Kp
end
-- part KpBool
section
set_option autoImplicit false
set_option linter.unusedVariables false
set_option maxRecDepth 100000
set_option Elab.async false
namespace Kp
open PySem PySem.W PyProof.Rows PySem.Calls

theorem same_l : ∀ (n : Nat) (xs xs' : List V) (ys : List V), xs.take n = xs'.take n → xs.length = xs'.length → same xs n ys = same xs' n ys
  | n, [], [], ys, _, _ => rfl
  | n, [], y :: r, ys, _, h => by cases h
  | n, x :: r, [], ys, _, h => by cases h
  | 0, x :: r, y :: r', ys, _, _ => rfl
  | n + 1, x :: r, y :: r', ys, h, hl => by
    simp only [List.take_succ_cons, List.cons.injEq] at h
    obtain ⟨rfl, h⟩ := h
    cases ys with
    | nil => rfl
    | cons z zs =>
      show bcase (veq x z) (same r n zs) false = bcase (veq x z) (same r' n zs) false
      rw [same_l n r r' zs h (by simpa using hl)]
theorem same_r : ∀ (n : Nat) (xs ys ys' : List V), ys.take n = ys'.take n → ys.length = ys'.length → same xs n ys = same xs n ys'
  | n, [], ys, ys', _, _ => by cases n <;> rfl
  | 0, x :: r, ys, ys', _, _ => rfl
  | n + 1, x :: r, [], [], _, _ => rfl
  | n + 1, x :: r, [], z :: zs, _, h => by cases h
  | n + 1, x :: r, z :: zs, [], _, h => by cases h
  | n + 1, x :: r, y :: ys, z :: zs, h, hl => by
    simp only [List.take_succ_cons, List.cons.injEq] at h
    obtain ⟨rfl, h⟩ := h
    show bcase (veq x y) (same r n ys) false = bcase (veq x y) (same r n zs) false
    rw [same_r n r ys zs h (by simpa using hl)]
theorem allL_of {xs : List Nat} {f : Nat → Bool} (h : allL xs f = true) : ∀ x ∈ xs, f x = true := by
  induction xs with
  | nil => intro x hx; cases hx
  | cons a r ih =>
    have h : bcase (f a) (allL r f) false = true := h
    obtain ⟨h1, h2⟩ := bc_of h
    intro x hx
    rcases List.mem_cons.mp hx with rfl | hx
    · exact h1
    · exact ih h2 x hx
theorem takeK_eq : ∀ (xs tail : List V) (n : Nat) (k : List V → Bool), takeK xs tail n k = k (xs.take n ++ tail)
  | [], tail, n, k => by rw [List.take_nil]; rfl
  | x :: r, tail, 0, k => rfl
  | x :: r, tail, n + 1, k => by
    show takeK r tail n (fun ys => k (x :: ys)) = _
    rw [takeK_eq r tail n]; rfl

-- the loop's body
noncomputable def bodyX : XS := sseq b_loop_0 (sseq b_loop_1 (sseq b_loop_2 (sseq b_loop_3 (sseq b_loop_4 (sseq b_loop_5 (sseq b_loop_6 (sseq b_loop_7 (sseq b_loop_8 (sseq b_loop_9 (sseq b_loop_10 (sseq b_loop_11 (sseq b_loop_12 fun l h kn _ _ _ => b_loop_13 (weakL l) h kn noR no2 no2))))))))))))
theorem sseq_assoc (a b c : XS) : sseq (sseq a b) c = sseq a (sseq b c) := rfl
theorem bodyX_eq : bodyX = sseq b_012 fun l h kn _ _ _ => b_loop_13 (weakL l) h kn noR no2 no2 := by
  unfold bodyX b_012 b_812
  simp only [sseq_assoc]
abbrev Cells (xs : List Int) : List V := xs.map V.int
section
variable {a0 a6 vb a9 a11 : V} {g : Nat} {fl rk sz col : Int} {lc : Bool} {h : H}
-- the finite check, read
theorem chk_Q {ss ps : List Nat} {t : List V} (hss : ∀ x : Int, inR 0 x sz = true → ∃ p ∈ ss, x = (p : Int)) (hps : ∀ x : Int, inR fl x (sz - fl) = true → (x % fl = col ∨ x % fl = fl - 1 - col) → ∃ p ∈ ps, x = (p : Int)) (hv : vb ≠ .unb)
    (hc : chk ss ps (LC a0 a6 vb a9 a11 g fl rk sz col lc t) h = true) (sd st pw wk : Int) (h1 : sd = 0 ∨ sd = 1) (h2 : inR 0 st sz = true) (h3 : inR 0 wk sz = true) (h4 : inR fl pw (sz - fl) = true) (h5 : pw % fl = col ∨ pw % fl = fl - 1 - col) (ht : t.length = 14) :
    f_probe_kpk [.ref g, vb, .int sd, .int st, .int pw, .int wk] ⟨h.t, h.n, h.n⟩ (fun v h' => b_loop_13 (LC a0 a6 vb a9 a11 g fl rk sz col lc (tail14 (.int sd) (.int st) (.int pw) (.int wk) v)) h' (fun l' _ => same (LC a0 a6 vb a9 a11 g fl rk sz col lc t) 12 l') noR no2 no2) = true := by
  obtain ⟨p1, m1, rfl⟩ := hss st h2
  obtain ⟨p2, m2, rfl⟩ := hss wk h3
  obtain ⟨p3, m3, rfl⟩ := hps pw h4 h5
  obtain ⟨p4, m4, rfl⟩ : ∃ p ∈ ([0, 1] : List Nat), sd = (p : Int) := by
    rcases h1 with rfl | rfl
    · exact ⟨0, by simp, rfl⟩
    · exact ⟨1, by simp, rfl⟩
  have hc : (allL ss fun st => allL ps fun pw => allL ss fun wk => allL [0, 1] fun sd => one (LC a0 a6 vb a9 a11 g fl rk sz col lc t) ⟨h.t, h.n, h.n⟩ sd st pw wk) = true := by cases h; exact hc
  have hq := allL_of (allL_of (allL_of (allL_of hc p1 m1) p3 m3) p2 m2) p4 m4
  unfold one at hq
  rw [takeK_eq] at hq
  have e1 : (LC a0 a6 vb a9 a11 g fl rk sz col lc t).take 12 ++ tail14 (.int (.ofNat p4)) (.int (.ofNat p1)) (.int (.ofNat p3)) (.int (.ofNat p2)) .unb = LC a0 a6 vb a9 a11 g fl rk sz col lc (tail14 (.int (.ofNat p4)) (.int (.ofNat p1)) (.int (.ofNat p3)) (.int (.ofNat p2)) .unb) := rfl
  rw [e1] at hq
  have e2 := run_setC (n := 21) (l := LC a0 a6 vb a9 a11 g fl rk sz col lc (tail14 (.int (.ofNat p4)) (.int (.ofNat p1)) (.int (.ofNat p3)) (.int (.ofNat p2)) .unb)) (h := ⟨h.t, h.n, h.n⟩) (f := f_probe_kpk) (kr := noR) (kb := no2) (kc := no2)
    (kn := fun l h' => b_loop_13 l h' (fun l' _ => same (LC a0 a6 vb a9 a11 g fl rk sz col lc (tail14 (.int (.ofNat p4)) (.int (.ofNat p1)) (.int (.ofNat p3)) (.int (.ofNat p2)) .unb)) 12 l') noR no2 no2)
    (evs_cons (ev_ref (i := 7) rfl) (evs_cons (ev_loc (i := 8) rfl hv) (evs_cons (ev_int (i := 13) rfl) (evs_cons (ev_int (i := 14) rfl) (evs_cons (ev_int (i := 15) rfl) (evs_cons (ev_int (i := 16) rfl) evs_nil)))))) rfl
  have hq : sset 21 (xcall f_probe_kpk (econs (xloc 7) (econs (xloc 8) (econs (xloc 13) (econs (xloc 14) (econs (xloc 15) (econs (xloc 16) enil))))))) (LC a0 a6 vb a9 a11 g fl rk sz col lc (tail14 (.int (.ofNat p4)) (.int (.ofNat p1)) (.int (.ofNat p3)) (.int (.ofNat p2)) .unb)) ⟨h.t, h.n, h.n⟩
    (fun l h' => b_loop_13 l h' (fun l' _ => same (LC a0 a6 vb a9 a11 g fl rk sz col lc (tail14 (.int (.ofNat p4)) (.int (.ofNat p1)) (.int (.ofNat p3)) (.int (.ofNat p2)) .unb)) 12 l') noR no2 no2) noR no2 no2 = true := hq
  rw [e2] at hq
  refine Eq.trans (congrArg (f_probe_kpk _ _) ?_) hq
  funext v h'
  have e3 : setV v (LC a0 a6 vb a9 a11 g fl rk sz col lc (tail14 (.int (.ofNat p4)) (.int (.ofNat p1)) (.int (.ofNat p3)) (.int (.ofNat p2)) .unb)) 21 = LC a0 a6 vb a9 a11 g fl rk sz col lc (tail14 (.int (.ofNat p4)) (.int (.ofNat p1)) (.int (.ofNat p3)) (.int (.ofNat p2)) v) := rfl
  rw [e3]
  have e4 : (fun (l' : Loc) (_ : H) => same (LC a0 a6 vb a9 a11 g fl rk sz col lc t) 12 l') = fun l' _ => same (LC a0 a6 vb a9 a11 g fl rk sz col lc (tail14 (.int (.ofNat p4)) (.int (.ofNat p1)) (.int (.ofNat p3)) (.int (.ofNat p2)) .unb)) 12 l' := by
    funext l' _
    exact same_l 12 _ _ l' rfl (by simp [LC, tail14, ht])
  rw [e4]
  rfl

set_option maxHeartbeats 4000000 in
-- the loop over the drawn placings
theorem loop_bool (s : Shape fl rk sz) (G : Geo h g fl rk sz) (hv : vb ≠ .unb) {xs : List Int} (hs : h.t.get 0 = .list (Cells xs)) (hlen : xs.length ≤ 100) (hc : 0 ≤ col ∧ col < fl)
    (hsame : ∀ t t', t.length = 14 → t'.length = 14 → same (LC a0 a6 vb a9 a11 g fl rk sz col lc t) 12 (LC a0 a6 vb a9 a11 g fl rk sz col lc t') = true)
    {ss ps : List Nat} (hss : ∀ x : Int, inR 0 x sz = true → ∃ p ∈ ss, x = (p : Int)) (hps : ∀ x : Int, inR fl x (sz - fl) = true → (x % fl = col ∨ x % fl = fl - 1 - col) → ∃ p ∈ ps, x = (p : Int))
    (hchk : ∀ t, t.length = 14 → chk ss ps (LC a0 a6 vb a9 a11 g fl rk sz col lc t) h = true) :
    ∀ (k at_ : Nat) (a12 a13 a14 a15 a16 a17 a18 a19 a20 a21 a22 a23 a24 a25 : V), (∀ j, j < k → at_ + 4 * j + 3 < xs.length) →
      forRange (tvar 18) (turnX bodyX) (fun _ _ => true) noR 4 k (at_ : Int) (LC a0 a6 vb a9 a11 g fl rk sz col lc [a12, a13, a14, a15, a16, a17, a18, a19, a20, a21, a22, a23, a24, a25]) h = true
  | 0, at_, a12, a13, a14, a15, a16, a17, a18, a19, a20, a21, a22, a23, a24, a25, _ => rfl
  | k + 1, at_, a12, a13, a14, a15, a16, a17, a18, a19, a20, a21, a22, a23, a24, a25, hk => by
    rw [forRange_succ]
    show setK (.int (at_ : Int)) (LC a0 a6 vb a9 a11 g fl rk sz col lc [a12, a13, a14, a15, a16, a17, a18, a19, a20, a21, a22, a23, a24, a25]) 18 _ = true
    rw [setK_eq, show setV (.int (at_ : Int)) (LC a0 a6 vb a9 a11 g fl rk sz col lc [a12, a13, a14, a15, a16, a17, a18, a19, a20, a21, a22, a23, a24, a25]) 18 = LC a0 a6 vb a9 a11 g fl rk sz col lc [a12, a13, a14, a15, a16, a17, .int (at_ : Int), a19, a20, a21, a22, a23, a24, a25] from rfl]
    have e : iadd (at_ : Int) 4 = ((at_ + 4 : Nat) : Int) := by rw [iadd_eq]; rfl
    have nx := loop_bool s G hv hs hlen hc hsame hss hps hchk k (at_ + 4) .unb .unb .unb .unb .unb .unb .unb .unb .unb .unb .unb .unb .unb .unb fun j hj => by have := hk (j + 1) (by omega); omega
    unfold turnX
    refine decide_eq_true ⟨?_, ?_, ?_⟩
    · rw [bodyX_eq]
      have h3 := hk 0 (by omega)
      refine p1_bool (h := ⟨h.t, h.n, h.n⟩) (xs := xs) (at_ := at_) (kN := fun l h => b_loop_13 l h (fun l' _ => same (LC a0 a6 vb a9 a11 g fl rk sz col lc [a12, a13, a14, a15, a16, a17, .int (at_ : Int), a19, a20, a21, a22, a23, a24, a25]) 12 l') noR no2 no2)
        s ⟨G.at_⟩ hv hs (by omega) hlen hc (fun t ht => hsame _ _ rfl ht) fun sd st pw wk q1 q2 q3 q4 q5 => chk_Q hss hps hv (hchk _ rfl) sd st pw wk q1 q2 q3 q4 q5 rfl
    · rw [e]; exact nx
    · rw [e]; exact nx

-- the run's end: all that the loop asks
noncomputable def rangeE : XE := xrange3 (xlit (.int (.ofNat 3))) (xbin osub (xlen (xloc 1)) (xlit (.int (.ofNat 3)))) (xlit (.int (.ofNat 4)))
noncomputable def m12 : KN := fun l h => sfor (tvar 18) rangeE (turnX bodyX) l h (fun _ _ => true) noR no2 no2
theorem ev_len {l : Loc} {h : H} {i n : Nat} {xs : List V} (e : getV l i = .ref n) (hn : h.t.get n = .list xs) (hl : xs.length ≤ 1000000) : Ev (xlen (xloc i)) l h (.int (xs.length : Int)) := fun k => by
  show xloc i l h (fun v h => asList v h fun _ xs => bcase (Nat.ble (lenV xs) 1000000) (k (.int (.ofNat (lenV xs))) h) false) = _
  rw [ev_ref e]
  show asList (.ref n) h _ = _
  have : asList (.ref n) h (fun _ xs => bcase (Nat.ble (lenV xs) 1000000) (k (.int (.ofNat (lenV xs))) h) false) = bcase (Nat.ble (lenV xs) 1000000) (k (.int (.ofNat (lenV xs))) h) false := by
    show @AO.rec (fun _ => Bool) false (fun xs => bcase (Nat.ble (lenV xs) 1000000) (k (.int (.ofNat (lenV xs))) h) false) (fun _ _ => false) (fun _ => false) (getT h n) = _
    rw [show getT h n = .list xs from hn]
  rw [this, lenV_eq, show Nat.ble xs.length 1000000 = true from Nat.ble_eq_true_of_le hl]
  rfl
theorem ev_range {l : Loc} {h : H} {a b c : XE} {i j : Int} (ha : Ev a l h (.int i)) (hb : Ev b l h (.int j)) (hc : Ev c l h (.int 4)) (b1 : i < 2 ^ 60) (b2 : -(2 ^ 60) ≤ i) (b3 : j < 2 ^ 60) (b4 : -(2 ^ 60) ≤ j) : Ev (xrange3 a b c) l h (.range i j 4) := fun k => by
  show a l h _ = _
  rw [ha]
  show b l h _ = _
  rw [hb]
  show c l h _ = _
  rw [hc]
  show small i (small j (bcase (stepOk 4) (k (.range i j 4) h) false) false) false = _
  rw [small_in b1 b2, small_in b3 b4]; rfl
theorem list26 {l : Loc} (h : l.length = 26) : ∃ a0 a1 a2 a3 a4 a5 a6 a7 a8 a9 a10 a11 a12 a13 a14 a15 a16 a17 a18 a19 a20 a21 a22 a23 a24 a25, l = [a0, a1, a2, a3, a4, a5, a6, a7, a8, a9, a10, a11, a12, a13, a14, a15, a16, a17, a18, a19, a20, a21, a22, a23, a24, a25] := by
  rcases l with _ | ⟨a0, _ | ⟨a1, _ | ⟨a2, _ | ⟨a3, _ | ⟨a4, _ | ⟨a5, _ | ⟨a6, _ | ⟨a7, _ | ⟨a8, _ | ⟨a9, _ | ⟨a10, _ | ⟨a11, _ | ⟨a12, _ | ⟨a13, _ | ⟨a14, _ | ⟨a15, _ | ⟨a16, _ | ⟨a17, _ | ⟨a18, _ | ⟨a19, _ | ⟨a20, _ | ⟨a21, _ | ⟨a22, _ | ⟨a23, _ | ⟨a24, _ | ⟨a25, _ | ⟨a26, r⟩⟩⟩⟩⟩⟩⟩⟩⟩⟩⟩⟩⟩⟩⟩⟩⟩⟩⟩⟩⟩⟩⟩⟩⟩⟩⟩ <;>
    first | (exfalso; simp only [List.length_cons, List.length_nil] at h; omega) | exact ⟨_, _, _, _, _, _, _, _, _, _, _, _, _, _, _, _, _, _, _, _, _, _, _, _, _, _, rfl⟩
open Classical in
noncomputable def PE (flN rkN szN : Nat) (lc : Bool) (c : Nat) (xs : List V) (vs ys : List V) : Bool :=
  decide (vs = [.int (.ofNat 26), .ref 0, .int (.ofNat flN), .int (.ofNat rkN), .int (.ofNat szN), .bool lc, .int (.ofNat c), .int (.ofNat flN), .int (.ofNat rkN), .int (.ofNat szN)] ∧ ys = xs)
open Classical in
theorem PE_of {flN rkN szN : Nat} {lc : Bool} {c : Nat} {xs vs ys : List V} (h : PE flN rkN szN lc c xs vs ys = true) :
    vs = [.int (.ofNat 26), .ref 0, .int (.ofNat flN), .int (.ofNat rkN), .int (.ofNat szN), .bool lc, .int (.ofNat c), .int (.ofNat flN), .int (.ofNat rkN), .int (.ofNat szN)] ∧ ys = xs := of_decide_eq_true h
theorem end_bool {flN rkN szN c : Nat} {lc : Bool} (s : Shape flN rkN szN) {xs : List Int} (hlen : xs.length ≤ 100) (hc : c < flN)
    {ss ps : List Nat} (hss0 : ∃ p q, p ∈ ss ∧ q ∈ ps) (hss : ∀ x : Int, inR 0 x szN = true → ∃ p ∈ ss, x = (p : Int)) (hps : ∀ x : Int, inR flN x ((szN : Int) - flN) = true → (x % flN = c ∨ x % flN = (flN : Int) - 1 - c) → ∃ p ∈ ps, x = (p : Int))
    {l : Loc} {h : H} (hk : kn11 ss ps (PE flN rkN szN lc c (Cells xs)) l h = true) : m12 l h = true := by
  obtain ⟨hsm, hk⟩ := bc_of hk
  obtain ⟨hchk, hk⟩ := bc_of hk
  obtain ⟨g, hg, hk⟩ := asRef_of hk
  rw [getT_eq, getT_eq] at hk
  rcases obj_of hk with ⟨_, _, q⟩ | ⟨_, _, _, q⟩ | ⟨fs, efs, hk⟩
  · cases q
  · cases q
  rcases obj_of hk with ⟨ys, eys, hk⟩ | ⟨_, _, _, q⟩ | ⟨_, _, q⟩
  rotate_left
  · cases q
  · cases q
  obtain ⟨hv, rfl⟩ := PE_of hk
  simp only [List.cons.injEq, and_true] at hv
  obtain ⟨v0, v1, v2, v3, v4, v5, v6, v7, v8, v9⟩ := hv
  have hl : l.length = 26 := by
    have : Int.ofNat (lenV l) = Int.ofNat 26 := V.int.inj v0
    rw [lenV_eq] at this
    exact Int.ofNat.inj this
  obtain ⟨a0, a1, a2, a3, a4, a5, a6, a7, a8, a9, a10, a11, a12, a13, a14, a15, a16, a17, a18, a19, a20, a21, a22, a23, a24, a25, rfl⟩ := list26 hl
  obtain rfl : a1 = .ref 0 := v1
  obtain rfl : a2 = .int (flN : Int) := v2
  obtain rfl : a3 = .int (rkN : Int) := v3
  obtain rfl : a4 = .int (szN : Int) := v4
  obtain rfl : a5 = .bool lc := v5
  obtain rfl : a10 = .int (c : Int) := v6
  obtain rfl : a7 = .ref g := hg
  have hchk : chk ss ps (LC a0 a6 a8 a9 a11 g flN rkN szN c lc [a12, a13, a14, a15, a16, a17, a18, a19, a20, a21, a22, a23, a24, a25]) h = true := hchk
  have hsm : same (LC a0 a6 a8 a9 a11 g flN rkN szN c lc [a12, a13, a14, a15, a16, a17, a18, a19, a20, a21, a22, a23, a24, a25]) 12 (LC a0 a6 a8 a9 a11 g flN rkN szN c lc [a12, a13, a14, a15, a16, a17, a18, a19, a20, a21, a22, a23, a24, a25]) = true := hsm
  have one_t : ∀ (t : List V), t.length = 14 → ∀ h' sd st pw wk, one (LC a0 a6 a8 a9 a11 g flN rkN szN c lc t) h' sd st pw wk = one (LC a0 a6 a8 a9 a11 g flN rkN szN c lc [a12, a13, a14, a15, a16, a17, a18, a19, a20, a21, a22, a23, a24, a25]) h' sd st pw wk := by
    intro t ht h' sd st pw wk
    unfold one
    rw [takeK_eq, takeK_eq]
    rfl
  have hchkt : ∀ t, t.length = 14 → chk ss ps (LC a0 a6 a8 a9 a11 g flN rkN szN c lc t) h = true := by
    intro t ht
    have : chk ss ps (LC a0 a6 a8 a9 a11 g flN rkN szN c lc t) h = chk ss ps (LC a0 a6 a8 a9 a11 g flN rkN szN c lc [a12, a13, a14, a15, a16, a17, a18, a19, a20, a21, a22, a23, a24, a25]) h := by
      cases h
      show (allL ss fun st => allL ps fun pw => allL ss fun wk => allL [0, 1] fun sd => one _ _ sd st pw wk) = (allL ss fun st => allL ps fun pw => allL ss fun wk => allL [0, 1] fun sd => one _ _ sd st pw wk)
      simp only [one_t t ht]
    rw [this]; exact hchk
  have hvb : a8 ≠ .unb := by
    rintro rfl
    obtain ⟨p, q, hp, hq⟩ := hss0
    have hc2 : (allL ss fun st => allL ps fun pw => allL ss fun wk => allL [0, 1] fun sd => one (LC a0 a6 .unb a9 a11 g flN rkN szN c lc [a12, a13, a14, a15, a16, a17, a18, a19, a20, a21, a22, a23, a24, a25]) ⟨h.t, h.n, h.n⟩ sd st pw wk) = true := by cases h; exact hchk
    have hz := allL_of (allL_of (allL_of (allL_of hc2 p hp) q hq) p hp) 0 (.head _)
    cases hz
  have G : Geo h g flN rkN szN := ⟨fs, efs, v7, v8, v9⟩
  unfold m12
  have er : Ev rangeE (LC a0 a6 a8 a9 a11 g flN rkN szN c lc [a12, a13, a14, a15, a16, a17, a18, a19, a20, a21, a22, a23, a24, a25]) h (.range 3 ((xs.length : Int) - 3) 4) := by
    have e1 := ev_len (l := LC a0 a6 a8 a9 a11 g flN rkN szN c lc [a12, a13, a14, a15, a16, a17, a18, a19, a20, a21, a22, a23, a24, a25]) (i := 1) rfl eys (by rw [List.length_map]; omega)
    rw [List.length_map] at e1
    exact ev_range (i := 3) (j := (xs.length : Int) - 3) ev_lit (ev_bin e1 ev_lit o_sub) ev_lit (by decide) (by decide) (by omega) (by omega)
  show sfor (tvar 18) rangeE (turnX bodyX) (LC a0 a6 a8 a9 a11 g flN rkN szN c lc [a12, a13, a14, a15, a16, a17, a18, a19, a20, a21, a22, a23, a24, a25]) h (fun _ _ => true) noR no2 no2 = true
  refine (er _).trans ?_
  show forRange (tvar 18) (turnX bodyX) (fun _ _ => true) noR 4 (rcount 3 ((xs.length : Int) - 3) 4) 3 _ h = true
  have hr : ((rcount 3 ((xs.length : Int) - 3) 4 : Nat) : Int) = Builtin.Range.rangeSize 3 ((xs.length : Int) - 3) 4 := rcount_eq (.inl (by decide))
  unfold Builtin.Range.rangeSize at hr
  rw [if_pos (by decide)] at hr
  refine loop_bool s G hvb eys hlen ⟨by omega, by omega⟩ (fun t t' ht ht' => ?_) hss hps hchkt _ 3 _ _ _ _ _ _ _ _ _ _ _ _ _ _ fun j hj => ?_
  · exact ((same_l 12 (LC a0 a6 a8 a9 a11 g flN rkN szN c lc t) (LC a0 a6 a8 a9 a11 g flN rkN szN c lc [a12, a13, a14, a15, a16, a17, a18, a19, a20, a21, a22, a23, a24, a25]) (LC a0 a6 a8 a9 a11 g flN rkN szN c lc t') rfl (by simp only [LC, List.length_cons, ht, List.length_nil])).trans (same_r 12 (LC a0 a6 a8 a9 a11 g flN rkN szN c lc [a12, a13, a14, a15, a16, a17, a18, a19, a20, a21, a22, a23, a24, a25]) (LC a0 a6 a8 a9 a11 g flN rkN szN c lc t') (LC a0 a6 a8 a9 a11 g flN rkN szN c lc [a12, a13, a14, a15, a16, a17, a18, a19, a20, a21, a22, a23, a24, a25]) rfl (by simp only [LC, List.length_cons, ht', List.length_nil]))).trans hsm
  · split at hr <;> omega
end
end Kp
end
-- part KpTop
section
set_option autoImplicit false
set_option linter.unusedVariables false
set_option maxRecDepth 100000
set_option Elab.async false
namespace Kp
open PySem PySem.W PyProof.Rows PySem.Calls

noncomputable def m8 (K : KN) : KN := fun l h => b_law_8 l h (fun l h => b_law_9 l h (fun l h => b_law_10 l h (fun l h => b_law_11 l h K noR no2 no2) noR no2 no2) noR no2 no2) noR no2 no2
noncomputable def m5 (K : KN) : KN := fun l h => b_law_5 l h (fun l h => b_law_6 l h (fun l h => b_law_7 l h K noR no2 no2) noR no2 no2) noR no2 no2
noncomputable def m1 (K : KN) : KN := fun l h => b_law_1 l h (fun l h => b_law_2 l h (fun l h => b_law_3 l h (fun l h => b_law_4 l h K noR no2 no2) noR no2 no2) noR no2 no2) noR no2 no2
open Classical in
noncomputable def P7E (flN : Nat) (xs : List V) (vs ys : List V) : Bool := decide (vs = [.ref 0, .int (.ofNat flN)] ∧ ys = xs)
open Classical in
theorem P7_of {flN : Nat} {xs vs ys : List V} (h : P7E flN xs vs ys = true) : vs = [.ref 0, .int (.ofNat flN)] ∧ ys = xs := of_decide_eq_true h
open Classical in
theorem PE_mk {flN rkN szN : Nat} {lc : Bool} {c : Nat} {xs : List V} : PE flN rkN szN lc c xs [.int (.ofNat 26), .ref 0, .int (.ofNat flN), .int (.ofNat rkN), .int (.ofNat szN), .bool lc, .int (.ofNat c), .int (.ofNat flN), .int (.ofNat rkN), .int (.ofNat szN)] xs = true := decide_eq_true ⟨rfl, rfl⟩
open Classical in
theorem P7_mk {flN : Nat} {xs : List V} : P7E flN xs [.ref 0, .int (.ofNat flN)] xs = true := decide_eq_true ⟨rfl, rfl⟩
theorem seven_bool {flN c : Nat} (hf : flN = 2 ∨ flN = 3) {ss ps : List Nat} {P : List V → List V → Bool} {xs : List Int} {x2 : Int} (e2 : xs[2]? = some x2) (hc : x2 % (flN : Int) = (c : Int)) {l : Loc} {h : H} (hk : kn7 c ss ps P (P7E flN (Cells xs)) l h = true) : m8 (kn11 ss ps P) l h = true := by
  obtain ⟨hr, hf7⟩ := bc_of hk
  unfold facts7 at hf7
  rw [getT_eq] at hf7
  rcases obj_of hf7 with ⟨ys, eys, q⟩ | ⟨_, _, _, q⟩ | ⟨_, _, q⟩
  rotate_left
  · cases q
  · cases q
  obtain ⟨hv, rfl⟩ := P7_of q
  simp only [List.cons.injEq, and_true] at hv
  obtain ⟨h1, h2⟩ := hv
  have hr : sset 10 (xlit (.int (.ofNat c))) l h (fun l h => b_law_9 l h (fun l h => b_law_10 l h (fun l h => b_law_11 l h (kn11 ss ps P) noR no2 no2) noR no2 no2) noR no2 no2) noR no2 no2 = true := hr
  rw [run_set ev_lit] at hr
  unfold m8 b_law_8
  refine run_setL (v := .int (.ofNat c)) (l' := setV (.int (.ofNat c)) l 10) ?_ rfl hr
  have := ev_bin (o := omod) (i := x2) (j := (flN : Int)) (ev_item (l := l) (h := h) (j := 2) (ev_ref h1) ev_lit eys (by rw [List.getElem?_map, e2]; rfl) (fun z => by cases z) (by decide)) (ev_int h2) (o_mod (by omega) (by omega))
  rw [hc] at this
  exact this
theorem sub_run {l : Loc} {h h' : H} {o i : XE} {n j : Nat} {xs : List V} {v : V} (ho : ∀ k, o l h k = k (.ref n) h') (hi : Ev i l h' (.int (j : Int))) (hn : h'.t.get n = .list xs) (hx : xs[j]? = some v) (hv : v ≠ .unb) (hj : j ≤ 1000000) (k : V → H → Bool) : xsub o i l h k = k v h' := by
  show o l h _ = _
  rw [ho]
  show i l h' _ = _
  rw [hi]
  refine (sub_so (getS h' n) _ _ _ _).trans ?_
  show objCase (getT h' n) _ _ _ = _
  rw [show getT h' n = .list xs from hn]
  show bcase (Nat.ble j 1000000) (known (getV xs j) _) false = _
  rw [show Nat.ble j 1000000 = true from Nat.ble_eq_true_of_le hj, getV_eq, hx]
  exact known_eq hv (fun v => k v h')
theorem run_unpack {is : List Nat} {e : XE} {l : Loc} {h h' : H} {vs : List V} {kn : KN} {kr : KR} {kb kc : KN} {X : Bool} (he : ∀ k, e l h k = k (.tup vs) h') (hX : sets is vs l (fun l => kn l h') = X) : sunpack is e l h kn kr kb kc = X := (he _).trans hX
theorem first_bool {flN rkN szN r : Nat} {lc db : Bool} {xs : List Int} {x0 x1 : Int} {K : KN} (e0 : xs[0]? = some x0) (e1 : xs[1]? = some x1) (h0 : x0 % 4 = (r : Int)) (ht : tuples[r]? = some (.tup [.int (.ofNat flN), .int (.ofNat rkN)])) (hr : r < 4)
    (hz : (szN : Int) = flN * rkN) (hf : flN ≤ 100) (hlc : decide ((rkN : Int) = 5) = lc) (hdb : (lc && decide (x1 % 2 = 0)) = db) (hK : K (l₄ flN rkN szN lc db) (η₁ (Cells xs)) = true) : m1 K l₀ (η₀ (Cells xs)) = true := by
  unfold m1 b_law_1
  refine run_unpack (h' := η₁ (Cells xs)) (vs := [.int (.ofNat flN), .int (.ofNat rkN)]) (fun k => sub_run (n := 1) (j := r) (xs := tuples) (fun k => rfl) ?_ rfl ht (fun z => by cases z) (by omega) k) ?_
  · have := ev_bin (o := omod) (i := x0) (j := 4) (ev_item (l := l₀) (h := η₁ (Cells xs)) (n := 0) (j := 0) (ev_ref (i := 1) rfl) ev_lit rfl (by rw [List.getElem?_map, e0]; rfl) (fun z => by cases z) (by decide)) ev_lit (o_mod (by decide) (by decide))
    rw [h0] at this
    exact this
  · show b_law_2 [.unb, .ref 0, .int (.ofNat flN), .int (.ofNat rkN), .unb, .unb, .unb, .unb, .unb, .unb, .unb, .unb, .unb, .unb, .unb, .unb, .unb, .unb, .unb, .unb, .unb, .unb, .unb, .unb, .unb, .unb] (η₁ (Cells xs)) (fun l h => b_law_3 l h (fun l h => b_law_4 l h K noR no2 no2) noR no2 no2) noR no2 no2 = true
    unfold b_law_2
    refine run_setL (v := .int (.ofNat szN)) (l' := [.unb, .ref 0, .int (.ofNat flN), .int (.ofNat rkN), .int (.ofNat szN), .unb, .unb, .unb, .unb, .unb, .unb, .unb, .unb, .unb, .unb, .unb, .unb, .unb, .unb, .unb, .unb, .unb, .unb, .unb, .unb, .unb])
      (ev_bin (i := (flN : Int)) (j := (rkN : Int)) (ev_int (i := 2) rfl) (ev_int (i := 3) rfl) (fun k => by rw [o_mul (by omega) (by omega), ← hz]; rfl)) rfl ?_
    unfold b_law_3
    refine run_setL (v := .bool lc) (l' := [.unb, .ref 0, .int (.ofNat flN), .int (.ofNat rkN), .int (.ofNat szN), .bool lc, .unb, .unb, .unb, .unb, .unb, .unb, .unb, .unb, .unb, .unb, .unb, .unb, .unb, .unb, .unb, .unb, .unb, .unb, .unb, .unb])
      (ev_cmp (i := (rkN : Int)) (j := 5) (ev_int (i := 3) rfl) ev_lit ((c_eq _ _).trans hlc)) rfl ?_
    unfold b_law_4
    refine run_setL (v := .bool db) (l' := l₄ flN rkN szN lc db) ?_ rfl hK
    rw [← hdb]
    refine ev_and (ev_bool (i := 5) rfl) (ev_cmp (i := x1 % 2) (j := 0) (ev_bin (i := x1) (j := 2) (ev_item (n := 0) (j := 1) (ev_ref (i := 1) rfl) ev_lit rfl (by rw [List.getElem?_map, e1]; rfl) (fun z => by cases z) (by decide)) ev_lit (o_mod (by decide) (by decide))) ev_lit (c_eq _ _))

-- a shape, all told
theorem shape_bool {flN rkN szN r c : Nat} {lc db : Bool} (s : Shape flN rkN szN) {xs : List Int} {x0 x1 x2 : Int} {ss ps : List Nat} (hlen : xs.length ≤ 100) (e0 : xs[0]? = some x0) (e1 : xs[1]? = some x1) (e2 : xs[2]? = some x2)
    (h0 : x0 % 4 = (r : Int)) (ht : tuples[r]? = some (.tup [.int (.ofNat flN), .int (.ofNat rkN)])) (hr : r < 4) (hz : (szN : Int) = flN * rkN) (hlc : decide ((rkN : Int) = 5) = lc) (hdb : (lc && decide (x1 % 2 = 0)) = db)
    (hc : x2 % (flN : Int) = (c : Int)) (hss0 : ∃ p q, p ∈ ss ∧ q ∈ ps) (hss : ∀ x : Int, inR 0 x szN = true → ∃ p ∈ ss, x = (p : Int)) (hps : ∀ x : Int, inR flN x ((szN : Int) - flN) = true → (x % flN = c ∨ x % flN = (flN : Int) - 1 - c) → ∃ p ∈ ps, x = (p : Int))
    (hrun : ∀ xs P P7, run flN rkN szN lc db c ss ps xs P P7 = ends flN rkN szN lc c xs P P7) :
    ∃ KA KB : KN, (∀ l h, KB l h = true → m8 KA l h = true) ∧ (∀ l h, KA l h = true → m12 l h = true) ∧ m1 (m5 KB) l₀ (η₀ (Cells xs)) = true := by
  have hf := shape_f s
  have hf' : flN = 2 ∨ flN = 3 := by omega
  have hcl : c < flN := by
    have := Int.emod_lt_of_pos x2 (show (0 : Int) < flN by omega)
    omega
  refine ⟨kn11 ss ps (PE flN rkN szN lc c (Cells xs)), kn7 c ss ps (PE flN rkN szN lc c (Cells xs)) (P7E flN (Cells xs)), fun l h hk => seven_bool hf' e2 hc hk, fun l h hk => end_bool s hlen hcl hss0 hss hps hk, ?_⟩
  refine first_bool e0 e1 h0 ht hr hz (by omega) hlc hdb ?_
  show run flN rkN szN lc db c ss ps (Cells xs) (PE flN rkN szN lc c (Cells xs)) (P7E flN (Cells xs)) = true
  rw [hrun]
  unfold ends
  rw [PE_mk, P7_mk]
  rfl
end Kp
end
-- part KpEnd
section
set_option autoImplicit false
set_option linter.unusedVariables false
set_option maxRecDepth 100000
set_option Elab.async false
namespace Kp
open PySem PySem.W PyProof.Rows PySem.Calls

noncomputable def base0 (w : World) (h₀ : Heap) (mg mb : Str → Option Value) (X : (kP w.params).In h₀) (lim : h₀.NoLimit) (g : h₀.Ns mainGlobals mg) (b : h₀.Ns builtinsNs mb)
    (nob : ∀ x : Str, x = "len" ∨ x = "abs" ∨ x = "min" ∨ x = "range" → mg x = none ∧ mb x = bootBuiltins x) : Base where
  prog := PySem.Challenge.rw_nt0434_01.row.prog
  w := w
  h₀ := h₀
  C := 184
  fI := 181
  mg := mg
  mb := mb
  K := kP w.params
  X := X
  lim := lim
  g := g
  b := b
  nob := nob
  cset := by kernel_rfl
  cover := by kernel_rfl
  cdict := by kernel_rfl
  ctake := by
    intro nm h
    simp only [fieldNames, List.mem_cons, List.not_mem_nil, or_false] at h
    rcases h with rfl | rfl | rfl | rfl | rfl | rfl | rfl | rfl | rfl | rfl | rfl | rfl | rfl | rfl <;> kernel_rfl
  cget := by
    intro nm h
    simp only [fieldNames, List.mem_cons, List.not_mem_nil, or_false] at h
    rcases h with rfl | rfl | rfl | rfl | rfl | rfl | rfl | rfl | rfl | rfl | rfl | rfl | rfl | rfl <;> kernel_rfl
  cfind := by
    intro nm h
    simp only [fieldNames, List.mem_cons, List.not_mem_nil, or_false] at h
    rcases h with rfl | rfl | rfl | rfl | rfl | rfl | rfl | rfl | rfl | rfl | rfl | rfl | rfl | rfl <;> exact ⟨none, by kernel_rfl, by kernel_rfl⟩
  cmake := by kernel_rfl
  cinit := by kernel_rfl
  cfn := by kernel_rfl
  fz := fun _ _ => False
  ro := 0

def cells (ns : List Int) : List Int := ns.take 15 ++ (List.replicate (7 - (ns.length : Int)).toNat [0]).flatten
theorem cells_len (ns : List Int) : 7 ≤ (cells ns).length ∧ (cells ns).length ≤ 100 := by
  unfold cells
  have : ((List.replicate (7 - (ns.length : Int)).toNat [(0 : Int)]).flatten).length = (7 - (ns.length : Int)).toNat := by
    simp
  rw [List.length_append, List.length_take, this]
  omega
-- after the first statement
def AtS (h₀ : Heap) (L : Addr) (ns : List Int) (g : Array GenState) (os : OsState) (s : Shared) : Prop :=
  ∃ D ws m, PlainL s.heap D (List.toArray ws) ∧ IntsAre ws (cells ns) ∧ h₀.get? D = none ∧ sysModules < D ∧ D ≠ L ∧ Fr h₀ L s.heap m ∧ m "s" = some (.ref D) ∧ s.gens = g ∧ s.os = os
theorem vsr_ints {φ : Phi} {h : Heap} {ws : List Value} {ns : List Int} (x : IntsAre ws ns) : VsR φ h (Cells ns) ws := by
  induction x with
  | nil => rfl
  | cons n t _ ih => exact ⟨_, _, rfl, ⟨t, rfl⟩, ih⟩
abbrev lawNames : List Str := ["script", "s", "files", "ranks", "size", "is_local", "double", "geo", "base", "near", "column", "right", "place", "side", "strong", "pawn", "weak", "known", "at", "owner", "is_bad", "told", "sort", "out", "one", "wanted"]
theorem start_SR {w : World} {h₀ : Heap} {mg mb : Str → Option Value} {X : (kP w.params).In h₀} {lim : h₀.NoLimit} {g : h₀.Ns mainGlobals mg} {b : h₀.Ns builtinsNs mb} {nob : ∀ x : Str, x = "len" ∨ x = "abs" ∨ x = "min" ∨ x = "range" → mg x = none ∧ mb x = bootBuiltins x}
    {cs : Scope} {fa : Addr} {cd : Value} {L : Addr} {ns : List Int} {gs : Array GenState} {os : OsState} {s : Shared} (z : AtS h₀ L ns gs os s) :
    ∃ φ, SR (base0 w h₀ mg mb X lim g b nob) ⟨"law", cs, fa, cd, lawNames⟩ φ (η₀ (Cells (cells ns))) L l₀ s := by
  obtain ⟨D, ws, m, hp, hi, hn, hlow, hDL, F, hm, hg, hos⟩ := z
  refine ⟨[(D, D)], ⟨F.keep, rfl, fun i a d e => ?_, fun p hp' => ?_, by simp, fun _ _ e => e.elim, fun _ _ _ _ _ e => e.elim, rfl⟩, F.above, fun p hp' => ?_, fun _ e => e.elim, m, F.ns, fun i nm e hne => ?_⟩
  · cases i with
    | zero =>
      simp only [List.getElem?_cons_zero, Option.some.injEq, Prod.mk.injEq] at e
      obtain ⟨rfl, rfl⟩ := e
      exact ⟨rfl, ws, hp, vsr_ints hi⟩
    | succ i => simp at e
  · simp only [List.mem_singleton] at hp'
    subst hp'; exact ⟨hn, hlow⟩
  · simp only [List.mem_singleton] at hp'
    subst hp'; exact hDL
  · rcases i with _ | _ | i
    · exact absurd rfl hne
    · obtain rfl : ("s" : Str) = nm := by simpa using e
      exact ⟨.ref D, hm, D, D, rfl, rfl⟩
    · exfalso
      apply hne
      by_cases q : i < 24
      · have : ∀ i, i < 24 → getV l₀ (i + 1 + 1) = .unb := by
          intro i hi
          unfold l₀
          rcases i with _ | _ | _ | _ | _ | _ | _ | _ | _ | _ | _ | _ | _ | _ | _ | _ | _ | _ | _ | _ | _ | _ | _ | _ | i <;> first | rfl | omega
        exact this i q
      · exact getV_ge l₀ _ (by show 26 ≤ _; omega)

-- the law's statements, one by one
noncomputable def m2 (K : KN) : KN := fun l h => b_law_2 l h (fun l h => b_law_3 l h (fun l h => b_law_4 l h K noR no2 no2) noR no2 no2) noR no2 no2
noncomputable def m3 (K : KN) : KN := fun l h => b_law_3 l h (fun l h => b_law_4 l h K noR no2 no2) noR no2 no2
noncomputable def m4 (K : KN) : KN := fun l h => b_law_4 l h K noR no2 no2
noncomputable def m6 (K : KN) : KN := fun l h => b_law_6 l h (fun l h => b_law_7 l h K noR no2 no2) noR no2 no2
noncomputable def m7 (K : KN) : KN := fun l h => b_law_7 l h K noR no2 no2
noncomputable def m9 (K : KN) : KN := fun l h => b_law_9 l h (fun l h => b_law_10 l h (fun l h => b_law_11 l h K noR no2 no2) noR no2 no2) noR no2 no2
noncomputable def m10 (K : KN) : KN := fun l h => b_law_10 l h (fun l h => b_law_11 l h K noR no2 no2) noR no2 no2
noncomputable def m11 (K : KN) : KN := fun l h => b_law_11 l h K noR no2 no2
section
variable {G : Base} {f : Fx} {n : Nat} {K : KN} {st : Stmt} {r : List Stmt}
theorem fin_1 (a : SS G f n b_law_1 st) (b : FinS G f n (m2 K) r) : FinS G f n (m1 K) (st :: r) := fin_cons a b
theorem fin_2 (a : SS G f n b_law_2 st) (b : FinS G f n (m3 K) r) : FinS G f n (m2 K) (st :: r) := fin_cons a b
theorem fin_3 (a : SS G f n b_law_3 st) (b : FinS G f n (m4 K) r) : FinS G f n (m3 K) (st :: r) := fin_cons a b
theorem fin_4 (a : SS G f n b_law_4 st) (b : FinS G f n K r) : FinS G f n (m4 K) (st :: r) := fin_cons a b
theorem fin_5 (a : SS G f n b_law_5 st) (b : FinS G f n (m6 K) r) : FinS G f n (m5 K) (st :: r) := fin_cons a b
theorem fin_6 (a : SS G f n b_law_6 st) (b : FinS G f n (m7 K) r) : FinS G f n (m6 K) (st :: r) := fin_cons a b
theorem fin_7 (a : SS G f n b_law_7 st) (b : FinS G f n K r) : FinS G f n (m7 K) (st :: r) := fin_cons a b
theorem fin_8 (a : SS G f n b_law_8 st) (b : FinS G f n (m9 K) r) : FinS G f n (m8 K) (st :: r) := fin_cons a b
theorem fin_9 (a : SS G f n b_law_9 st) (b : FinS G f n (m10 K) r) : FinS G f n (m9 K) (st :: r) := fin_cons a b
theorem fin_10 (a : SS G f n b_law_10 st) (b : FinS G f n (m11 K) r) : FinS G f n (m10 K) (st :: r) := fin_cons a b
theorem fin_11 (a : SS G f n b_law_11 st) (b : FinS G f n K r) : FinS G f n (m11 K) (st :: r) := fin_cons a b
theorem fin_12 {base : Heap} (a : SSX base [] false G f n (sfor (tvar 18) rangeE (turnX bodyX)) st) (b : FinS G f n (fun _ _ => true) r) : FinS G f n m12 (st :: r) := fin_consX a b
end
def Told (xs : List Int) : Prop := ∃ KA KB : KN, (∀ l h, KB l h = true → m8 KA l h = true) ∧ (∀ l h, KA l h = true → m12 l h = true) ∧ m1 (m5 KB) l₀ (η₀ (Cells xs)) = true
theorem ok_of {cn : Str} {cs : Scope} {a : Addr} {cd : Value} {names : List Str} (h1 : cs.kind = .function) (h2 : names.Nodup) (h3 : ∀ nm ∈ names, cs.names.lookup nm = some .local) (h4 : ∀ nm ∈ names, (nm == ("__debug__" : Str)) = false) : Fx.Ok ⟨cn, cs, a, cd, names⟩ := ⟨h1, h2, h3, h4⟩
theorem mg_none {K : Frag} {h : Heap} {mg : Str → Option Value} {n : Str} (X : K.In h) (G : h.Ns mainGlobals mg) (e : nsIn K mainGlobals n = some none) : mg n = none := by
  obtain ⟨o, es, ep, ho, hd, _, hf⟩ := G
  unfold nsIn at e
  split at e
  · rename_i c d es' n' sl q
    have := X _ _ q
    rw [ho] at this
    cases this
    cases hd
    split at e
    · cases e
    · rename_i he
      rw [← hf]
      unfold nsFind findBy
      rw [← Array.find?_toList, he]
      rfl
  · cases e
theorem nob_of {w : World} {h₀ : Heap} {mg mb : Str → Option Value} (X : (kP w.params).In h₀) (g : h₀.Ns mainGlobals mg) (hb : ∀ x : Str, x ≠ "__name__" → mb x = bootBuiltins x) :
    ∀ x : Str, x = "len" ∨ x = "abs" ∨ x = "min" ∨ x = "range" ∨ x = "Exception" → mg x = none ∧ mb x = bootBuiltins x := by
  intro x hx
  rcases hx with rfl | rfl | rfl | rfl | rfl
  · exact ⟨mg_none X g (by kernel_rfl), hb _ (by decide)⟩
  · exact ⟨mg_none X g (by kernel_rfl), hb _ (by decide)⟩
  · exact ⟨mg_none X g (by kernel_rfl), hb _ (by decide)⟩
  · exact ⟨mg_none X g (by kernel_rfl), hb _ (by decide)⟩
  · exact ⟨mg_none X g (by kernel_rfl), hb _ (by decide)⟩
theorem law_end {w : World} {h₀ : Heap} {mg mb : Str → Option Value} (X : (kP w.params).In h₀) (lim : h₀.NoLimit) (g : h₀.Ns mainGlobals mg) (b : h₀.Ns builtinsNs mb)
    (nob : ∀ x : Str, x = "len" ∨ x = "abs" ∨ x = "min" ∨ x = "range" ∨ x = "Exception" → mg x = none ∧ mb x = bootBuiltins x)
    {name : Str} {cs : Scope} {fa : Addr} {cd : Value} {L : Addr} {ns : List Int} {os : OsState} {s : Shared} {body : List Stmt} {Q : Flow → Shared → Prop} {E : Value → Shared → Prop} (hn : name = "law") (z : AtS h₀ L ns #[] os s) (T : Told (cells ns)) (ok : Fx.Ok ⟨"law", cs, fa, cd, lawNames⟩)
    (fin : ∀ (G : Base) (B : Own G) (hmE : G.mg "Exception" = none) (hbE : G.mb "Exception" = bootBuiltins "Exception") (ok : Fx.Ok ⟨"law", cs, fa, cd, lawNames⟩) (KA KB : KN), (∀ l h, KB l h = true → m8 KA l h = true) → (∀ l h, KA l h = true → m12 l h = true) → FinS G ⟨"law", cs, fa, cd, lawNames⟩ 8 (m1 (m5 KB)) body)
    (hQ : ∀ s', (∀ b o, h₀.get? b = some o → s'.heap.get? b = some o) → s'.gens = #[] → s'.os = os → Q (.ret (.bool true)) s') :
    wpAny (model PySem.Challenge.rw_nt0434_01.row.prog w) (callerA.deeper (envOf name cs L fa cd)) (execs body (envOf name cs L fa cd)) Q E s := by
  subst hn
  obtain ⟨φ, S⟩ := start_SR (w := w) (mg := mg) (mb := mb) (X := X) (lim := lim) (g := g) (b := b) (nob := fun x hx => nob x (by rcases hx with h | h | h | h <;> simp [h])) (cs := cs) (fa := fa) (cd := cd) z
  obtain ⟨KA, KB, hB, hA', hm⟩ := T
  obtain ⟨hmE, hbE⟩ := nob "Exception" (by simp)
  obtain ⟨D, ws, m, -, -, -, -, -, -, -, hg, hos⟩ := z
  have room : Room (callerA.deeper (envOf "law" cs L fa cd)) 8 := ⟨by show callerA.depth + 1 + 8 < recursionLimit; decide +kernel, by show callerA.units + 3 + 8 * 8 + 16 < cLine; decide +kernel, rfl⟩
  refine wpAny_mono (fin (base0 w h₀ mg mb X lim g b fun x hx => nob x (by rcases hx with h | h | h | h <;> simp [h])) ⟨rfl, rfl, rfl⟩ hmE hbE ok KA KB hB hA' _ L φ _ l₀ s room (Around.frames_deeper (below_caller h₀).stack) S hm) (fun fl s' y => ?_) fun _ _ y => y.elim
  obtain ⟨rfl, k, g', o'⟩ := y
  exact hQ s' k (g'.trans hg) (o'.trans hos)
end Kp
end
-- part KpKern
section
set_option autoImplicit false
set_option maxRecDepth 1000000
set_option Elab.async false
namespace Kp
theorem k_23_s_0 : ∀ xs P P7, run 2 3 6 false false 0 [(nat_lit 0), (nat_lit 1), (nat_lit 2), (nat_lit 3), (nat_lit 4), (nat_lit 5)] [(nat_lit 2), (nat_lit 3)] xs P P7 = ends 2 3 6 false 0 xs P P7 := fun xs P P7 => by kernel_rfl
theorem k_23_s_1 : ∀ xs P P7, run 2 3 6 false false 1 [(nat_lit 0), (nat_lit 1), (nat_lit 2), (nat_lit 3), (nat_lit 4), (nat_lit 5)] [(nat_lit 2), (nat_lit 3)] xs P P7 = ends 2 3 6 false 1 xs P P7 := fun xs P P7 => by kernel_rfl
theorem k_24_s_0 : ∀ xs P P7, run 2 4 8 false false 0 [(nat_lit 0), (nat_lit 1), (nat_lit 2), (nat_lit 3), (nat_lit 4), (nat_lit 5), (nat_lit 6), (nat_lit 7)] [(nat_lit 2), (nat_lit 3), (nat_lit 4), (nat_lit 5)] xs P P7 = ends 2 4 8 false 0 xs P P7 := fun xs P P7 => by kernel_rfl
theorem k_24_s_1 : ∀ xs P P7, run 2 4 8 false false 1 [(nat_lit 0), (nat_lit 1), (nat_lit 2), (nat_lit 3), (nat_lit 4), (nat_lit 5), (nat_lit 6), (nat_lit 7)] [(nat_lit 2), (nat_lit 3), (nat_lit 4), (nat_lit 5)] xs P P7 = ends 2 4 8 false 1 xs P P7 := fun xs P P7 => by kernel_rfl
theorem k_33_s_0 : ∀ xs P P7, run 3 3 9 false false 0 [(nat_lit 0), (nat_lit 1), (nat_lit 2), (nat_lit 3), (nat_lit 4), (nat_lit 5), (nat_lit 6), (nat_lit 7), (nat_lit 8)] [(nat_lit 3), (nat_lit 5)] xs P P7 = ends 3 3 9 false 0 xs P P7 := fun xs P P7 => by kernel_rfl
theorem k_33_s_1 : ∀ xs P P7, run 3 3 9 false false 1 [(nat_lit 0), (nat_lit 1), (nat_lit 2), (nat_lit 3), (nat_lit 4), (nat_lit 5), (nat_lit 6), (nat_lit 7), (nat_lit 8)] [(nat_lit 4)] xs P P7 = ends 3 3 9 false 1 xs P P7 := fun xs P P7 => by kernel_rfl
theorem k_33_s_2 : ∀ xs P P7, run 3 3 9 false false 2 [(nat_lit 0), (nat_lit 1), (nat_lit 2), (nat_lit 3), (nat_lit 4), (nat_lit 5), (nat_lit 6), (nat_lit 7), (nat_lit 8)] [(nat_lit 3), (nat_lit 5)] xs P P7 = ends 3 3 9 false 2 xs P P7 := fun xs P P7 => by kernel_rfl
theorem k_25_d_0 : ∀ xs P P7, run 2 5 10 true true 0 [(nat_lit 0), (nat_lit 1), (nat_lit 2), (nat_lit 3), (nat_lit 4), (nat_lit 5), (nat_lit 6), (nat_lit 7), (nat_lit 8), (nat_lit 9)] [(nat_lit 2), (nat_lit 3), (nat_lit 4), (nat_lit 5), (nat_lit 6), (nat_lit 7)] xs P P7 = ends 2 5 10 true 0 xs P P7 := fun xs P P7 => by kernel_rfl
theorem k_25_d_1 : ∀ xs P P7, run 2 5 10 true true 1 [(nat_lit 0), (nat_lit 1), (nat_lit 2), (nat_lit 3), (nat_lit 4), (nat_lit 5), (nat_lit 6), (nat_lit 7), (nat_lit 8), (nat_lit 9)] [(nat_lit 2), (nat_lit 3), (nat_lit 4), (nat_lit 5), (nat_lit 6), (nat_lit 7)] xs P P7 = ends 2 5 10 true 1 xs P P7 := fun xs P P7 => by kernel_rfl
theorem k_25_s_0 : ∀ xs P P7, run 2 5 10 true false 0 [(nat_lit 0), (nat_lit 1), (nat_lit 2), (nat_lit 3), (nat_lit 4), (nat_lit 5), (nat_lit 6), (nat_lit 7), (nat_lit 8), (nat_lit 9)] [(nat_lit 2), (nat_lit 3), (nat_lit 4), (nat_lit 5), (nat_lit 6), (nat_lit 7)] xs P P7 = ends 2 5 10 true 0 xs P P7 := fun xs P P7 => by kernel_rfl
theorem k_25_s_1 : ∀ xs P P7, run 2 5 10 true false 1 [(nat_lit 0), (nat_lit 1), (nat_lit 2), (nat_lit 3), (nat_lit 4), (nat_lit 5), (nat_lit 6), (nat_lit 7), (nat_lit 8), (nat_lit 9)] [(nat_lit 2), (nat_lit 3), (nat_lit 4), (nat_lit 5), (nat_lit 6), (nat_lit 7)] xs P P7 = ends 2 5 10 true 1 xs P P7 := fun xs P P7 => by kernel_rfl
end Kp
end
-- part KpAll
section
set_option autoImplicit false
set_option linter.unusedVariables false
set_option maxRecDepth 100000
set_option Elab.async false
namespace Kp
open PySem PySem.W PyProof.Rows PySem.Calls
theorem in_all {sz : Nat} {ss : List Nat} (h : ∀ n, n < sz → n ∈ ss) : ∀ x : Int, inR 0 x sz = true → ∃ p ∈ ss, x = (p : Int) := fun x hx => by
  rw [inR_iff] at hx
  exact ⟨x.toNat, h _ (by omega), by omega⟩

theorem t_23_s_0 {xs : List Int} {x0 x1 x2 : Int} (hlen : xs.length ≤ 100) (e0 : xs[0]? = some x0) (e1 : xs[1]? = some x1) (e2 : xs[2]? = some x2) (h0 : x0 % 4 = 0)  (h2 : x2 % 2 = 0) : Told xs := by
  refine shape_bool (flN := 2) (rkN := 3) (szN := 6) (r := 0) (c := 0) (lc := false) (db := false) (ss := [(nat_lit 0), (nat_lit 1), (nat_lit 2), (nat_lit 3), (nat_lit 4), (nat_lit 5)]) (ps := [(nat_lit 2), (nat_lit 3)]) (by unfold Shape; simp) hlen e0 e1 e2 h0 rfl (by decide) rfl rfl (rfl) h2 ⟨0, 2, by decide, by decide⟩ (in_all (by decide)) (fun x hx hy => ?_) k_23_s_0
  rw [inR_iff] at hx
  have := (by decide : ∀ n, n < 6 → (2 ≤ n ∧ n < 4 ∧ (n % 2 = 0 ∨ n % 2 = 1)) → n ∈ [(nat_lit 2), (nat_lit 3)]) x.toNat (by omega) (by omega)
  exact ⟨x.toNat, this, by omega⟩
theorem t_23_s_1 {xs : List Int} {x0 x1 x2 : Int} (hlen : xs.length ≤ 100) (e0 : xs[0]? = some x0) (e1 : xs[1]? = some x1) (e2 : xs[2]? = some x2) (h0 : x0 % 4 = 0)  (h2 : x2 % 2 = 1) : Told xs := by
  refine shape_bool (flN := 2) (rkN := 3) (szN := 6) (r := 0) (c := 1) (lc := false) (db := false) (ss := [(nat_lit 0), (nat_lit 1), (nat_lit 2), (nat_lit 3), (nat_lit 4), (nat_lit 5)]) (ps := [(nat_lit 2), (nat_lit 3)]) (by unfold Shape; simp) hlen e0 e1 e2 h0 rfl (by decide) rfl rfl (rfl) h2 ⟨0, 2, by decide, by decide⟩ (in_all (by decide)) (fun x hx hy => ?_) k_23_s_1
  rw [inR_iff] at hx
  have := (by decide : ∀ n, n < 6 → (2 ≤ n ∧ n < 4 ∧ (n % 2 = 1 ∨ n % 2 = 0)) → n ∈ [(nat_lit 2), (nat_lit 3)]) x.toNat (by omega) (by omega)
  exact ⟨x.toNat, this, by omega⟩
theorem t_24_s_0 {xs : List Int} {x0 x1 x2 : Int} (hlen : xs.length ≤ 100) (e0 : xs[0]? = some x0) (e1 : xs[1]? = some x1) (e2 : xs[2]? = some x2) (h0 : x0 % 4 = 1)  (h2 : x2 % 2 = 0) : Told xs := by
  refine shape_bool (flN := 2) (rkN := 4) (szN := 8) (r := 1) (c := 0) (lc := false) (db := false) (ss := [(nat_lit 0), (nat_lit 1), (nat_lit 2), (nat_lit 3), (nat_lit 4), (nat_lit 5), (nat_lit 6), (nat_lit 7)]) (ps := [(nat_lit 2), (nat_lit 3), (nat_lit 4), (nat_lit 5)]) (by unfold Shape; simp) hlen e0 e1 e2 h0 rfl (by decide) rfl rfl (rfl) h2 ⟨0, 2, by decide, by decide⟩ (in_all (by decide)) (fun x hx hy => ?_) k_24_s_0
  rw [inR_iff] at hx
  have := (by decide : ∀ n, n < 8 → (2 ≤ n ∧ n < 6 ∧ (n % 2 = 0 ∨ n % 2 = 1)) → n ∈ [(nat_lit 2), (nat_lit 3), (nat_lit 4), (nat_lit 5)]) x.toNat (by omega) (by omega)
  exact ⟨x.toNat, this, by omega⟩
theorem t_24_s_1 {xs : List Int} {x0 x1 x2 : Int} (hlen : xs.length ≤ 100) (e0 : xs[0]? = some x0) (e1 : xs[1]? = some x1) (e2 : xs[2]? = some x2) (h0 : x0 % 4 = 1)  (h2 : x2 % 2 = 1) : Told xs := by
  refine shape_bool (flN := 2) (rkN := 4) (szN := 8) (r := 1) (c := 1) (lc := false) (db := false) (ss := [(nat_lit 0), (nat_lit 1), (nat_lit 2), (nat_lit 3), (nat_lit 4), (nat_lit 5), (nat_lit 6), (nat_lit 7)]) (ps := [(nat_lit 2), (nat_lit 3), (nat_lit 4), (nat_lit 5)]) (by unfold Shape; simp) hlen e0 e1 e2 h0 rfl (by decide) rfl rfl (rfl) h2 ⟨0, 2, by decide, by decide⟩ (in_all (by decide)) (fun x hx hy => ?_) k_24_s_1
  rw [inR_iff] at hx
  have := (by decide : ∀ n, n < 8 → (2 ≤ n ∧ n < 6 ∧ (n % 2 = 1 ∨ n % 2 = 0)) → n ∈ [(nat_lit 2), (nat_lit 3), (nat_lit 4), (nat_lit 5)]) x.toNat (by omega) (by omega)
  exact ⟨x.toNat, this, by omega⟩
theorem t_33_s_0 {xs : List Int} {x0 x1 x2 : Int} (hlen : xs.length ≤ 100) (e0 : xs[0]? = some x0) (e1 : xs[1]? = some x1) (e2 : xs[2]? = some x2) (h0 : x0 % 4 = 2)  (h2 : x2 % 3 = 0) : Told xs := by
  refine shape_bool (flN := 3) (rkN := 3) (szN := 9) (r := 2) (c := 0) (lc := false) (db := false) (ss := [(nat_lit 0), (nat_lit 1), (nat_lit 2), (nat_lit 3), (nat_lit 4), (nat_lit 5), (nat_lit 6), (nat_lit 7), (nat_lit 8)]) (ps := [(nat_lit 3), (nat_lit 5)]) (by unfold Shape; simp) hlen e0 e1 e2 h0 rfl (by decide) rfl rfl (rfl) h2 ⟨0, 3, by decide, by decide⟩ (in_all (by decide)) (fun x hx hy => ?_) k_33_s_0
  rw [inR_iff] at hx
  have := (by decide : ∀ n, n < 9 → (3 ≤ n ∧ n < 6 ∧ (n % 3 = 0 ∨ n % 3 = 2)) → n ∈ [(nat_lit 3), (nat_lit 5)]) x.toNat (by omega) (by omega)
  exact ⟨x.toNat, this, by omega⟩
theorem t_33_s_1 {xs : List Int} {x0 x1 x2 : Int} (hlen : xs.length ≤ 100) (e0 : xs[0]? = some x0) (e1 : xs[1]? = some x1) (e2 : xs[2]? = some x2) (h0 : x0 % 4 = 2)  (h2 : x2 % 3 = 1) : Told xs := by
  refine shape_bool (flN := 3) (rkN := 3) (szN := 9) (r := 2) (c := 1) (lc := false) (db := false) (ss := [(nat_lit 0), (nat_lit 1), (nat_lit 2), (nat_lit 3), (nat_lit 4), (nat_lit 5), (nat_lit 6), (nat_lit 7), (nat_lit 8)]) (ps := [(nat_lit 4)]) (by unfold Shape; simp) hlen e0 e1 e2 h0 rfl (by decide) rfl rfl (rfl) h2 ⟨0, 4, by decide, by decide⟩ (in_all (by decide)) (fun x hx hy => ?_) k_33_s_1
  rw [inR_iff] at hx
  have := (by decide : ∀ n, n < 9 → (3 ≤ n ∧ n < 6 ∧ (n % 3 = 1 ∨ n % 3 = 1)) → n ∈ [(nat_lit 4)]) x.toNat (by omega) (by omega)
  exact ⟨x.toNat, this, by omega⟩
theorem t_33_s_2 {xs : List Int} {x0 x1 x2 : Int} (hlen : xs.length ≤ 100) (e0 : xs[0]? = some x0) (e1 : xs[1]? = some x1) (e2 : xs[2]? = some x2) (h0 : x0 % 4 = 2)  (h2 : x2 % 3 = 2) : Told xs := by
  refine shape_bool (flN := 3) (rkN := 3) (szN := 9) (r := 2) (c := 2) (lc := false) (db := false) (ss := [(nat_lit 0), (nat_lit 1), (nat_lit 2), (nat_lit 3), (nat_lit 4), (nat_lit 5), (nat_lit 6), (nat_lit 7), (nat_lit 8)]) (ps := [(nat_lit 3), (nat_lit 5)]) (by unfold Shape; simp) hlen e0 e1 e2 h0 rfl (by decide) rfl rfl (rfl) h2 ⟨0, 3, by decide, by decide⟩ (in_all (by decide)) (fun x hx hy => ?_) k_33_s_2
  rw [inR_iff] at hx
  have := (by decide : ∀ n, n < 9 → (3 ≤ n ∧ n < 6 ∧ (n % 3 = 2 ∨ n % 3 = 0)) → n ∈ [(nat_lit 3), (nat_lit 5)]) x.toNat (by omega) (by omega)
  exact ⟨x.toNat, this, by omega⟩
theorem t_25_d_0 {xs : List Int} {x0 x1 x2 : Int} (hlen : xs.length ≤ 100) (e0 : xs[0]? = some x0) (e1 : xs[1]? = some x1) (e2 : xs[2]? = some x2) (h0 : x0 % 4 = 3) (h1 : x1 % 2 = 0) (h2 : x2 % 2 = 0) : Told xs := by
  refine shape_bool (flN := 2) (rkN := 5) (szN := 10) (r := 3) (c := 0) (lc := true) (db := true) (ss := [(nat_lit 0), (nat_lit 1), (nat_lit 2), (nat_lit 3), (nat_lit 4), (nat_lit 5), (nat_lit 6), (nat_lit 7), (nat_lit 8), (nat_lit 9)]) (ps := [(nat_lit 2), (nat_lit 3), (nat_lit 4), (nat_lit 5), (nat_lit 6), (nat_lit 7)]) (by unfold Shape; simp) hlen e0 e1 e2 h0 rfl (by decide) rfl rfl (by rw [decide_eq_true h1]; rfl) h2 ⟨0, 2, by decide, by decide⟩ (in_all (by decide)) (fun x hx hy => ?_) k_25_d_0
  rw [inR_iff] at hx
  have := (by decide : ∀ n, n < 10 → (2 ≤ n ∧ n < 8 ∧ (n % 2 = 0 ∨ n % 2 = 1)) → n ∈ [(nat_lit 2), (nat_lit 3), (nat_lit 4), (nat_lit 5), (nat_lit 6), (nat_lit 7)]) x.toNat (by omega) (by omega)
  exact ⟨x.toNat, this, by omega⟩
theorem t_25_d_1 {xs : List Int} {x0 x1 x2 : Int} (hlen : xs.length ≤ 100) (e0 : xs[0]? = some x0) (e1 : xs[1]? = some x1) (e2 : xs[2]? = some x2) (h0 : x0 % 4 = 3) (h1 : x1 % 2 = 0) (h2 : x2 % 2 = 1) : Told xs := by
  refine shape_bool (flN := 2) (rkN := 5) (szN := 10) (r := 3) (c := 1) (lc := true) (db := true) (ss := [(nat_lit 0), (nat_lit 1), (nat_lit 2), (nat_lit 3), (nat_lit 4), (nat_lit 5), (nat_lit 6), (nat_lit 7), (nat_lit 8), (nat_lit 9)]) (ps := [(nat_lit 2), (nat_lit 3), (nat_lit 4), (nat_lit 5), (nat_lit 6), (nat_lit 7)]) (by unfold Shape; simp) hlen e0 e1 e2 h0 rfl (by decide) rfl rfl (by rw [decide_eq_true h1]; rfl) h2 ⟨0, 2, by decide, by decide⟩ (in_all (by decide)) (fun x hx hy => ?_) k_25_d_1
  rw [inR_iff] at hx
  have := (by decide : ∀ n, n < 10 → (2 ≤ n ∧ n < 8 ∧ (n % 2 = 1 ∨ n % 2 = 0)) → n ∈ [(nat_lit 2), (nat_lit 3), (nat_lit 4), (nat_lit 5), (nat_lit 6), (nat_lit 7)]) x.toNat (by omega) (by omega)
  exact ⟨x.toNat, this, by omega⟩
theorem t_25_s_0 {xs : List Int} {x0 x1 x2 : Int} (hlen : xs.length ≤ 100) (e0 : xs[0]? = some x0) (e1 : xs[1]? = some x1) (e2 : xs[2]? = some x2) (h0 : x0 % 4 = 3) (h1 : ¬ x1 % 2 = 0) (h2 : x2 % 2 = 0) : Told xs := by
  refine shape_bool (flN := 2) (rkN := 5) (szN := 10) (r := 3) (c := 0) (lc := true) (db := false) (ss := [(nat_lit 0), (nat_lit 1), (nat_lit 2), (nat_lit 3), (nat_lit 4), (nat_lit 5), (nat_lit 6), (nat_lit 7), (nat_lit 8), (nat_lit 9)]) (ps := [(nat_lit 2), (nat_lit 3), (nat_lit 4), (nat_lit 5), (nat_lit 6), (nat_lit 7)]) (by unfold Shape; simp) hlen e0 e1 e2 h0 rfl (by decide) rfl rfl (by rw [decide_eq_false h1]; rfl) h2 ⟨0, 2, by decide, by decide⟩ (in_all (by decide)) (fun x hx hy => ?_) k_25_s_0
  rw [inR_iff] at hx
  have := (by decide : ∀ n, n < 10 → (2 ≤ n ∧ n < 8 ∧ (n % 2 = 0 ∨ n % 2 = 1)) → n ∈ [(nat_lit 2), (nat_lit 3), (nat_lit 4), (nat_lit 5), (nat_lit 6), (nat_lit 7)]) x.toNat (by omega) (by omega)
  exact ⟨x.toNat, this, by omega⟩
theorem t_25_s_1 {xs : List Int} {x0 x1 x2 : Int} (hlen : xs.length ≤ 100) (e0 : xs[0]? = some x0) (e1 : xs[1]? = some x1) (e2 : xs[2]? = some x2) (h0 : x0 % 4 = 3) (h1 : ¬ x1 % 2 = 0) (h2 : x2 % 2 = 1) : Told xs := by
  refine shape_bool (flN := 2) (rkN := 5) (szN := 10) (r := 3) (c := 1) (lc := true) (db := false) (ss := [(nat_lit 0), (nat_lit 1), (nat_lit 2), (nat_lit 3), (nat_lit 4), (nat_lit 5), (nat_lit 6), (nat_lit 7), (nat_lit 8), (nat_lit 9)]) (ps := [(nat_lit 2), (nat_lit 3), (nat_lit 4), (nat_lit 5), (nat_lit 6), (nat_lit 7)]) (by unfold Shape; simp) hlen e0 e1 e2 h0 rfl (by decide) rfl rfl (by rw [decide_eq_false h1]; rfl) h2 ⟨0, 2, by decide, by decide⟩ (in_all (by decide)) (fun x hx hy => ?_) k_25_s_1
  rw [inR_iff] at hx
  have := (by decide : ∀ n, n < 10 → (2 ≤ n ∧ n < 8 ∧ (n % 2 = 1 ∨ n % 2 = 0)) → n ∈ [(nat_lit 2), (nat_lit 3), (nat_lit 4), (nat_lit 5), (nat_lit 6), (nat_lit 7)]) x.toNat (by omega) (by omega)
  exact ⟨x.toNat, this, by omega⟩
theorem told_all (xs : List Int) (h : 7 ≤ xs.length ∧ xs.length ≤ 100) : Told xs := by
  obtain ⟨x0, e0⟩ : ∃ x, xs[0]? = some x := ⟨xs[0], List.getElem?_eq_getElem (by omega)⟩
  obtain ⟨x1, e1⟩ : ∃ x, xs[1]? = some x := ⟨xs[1], List.getElem?_eq_getElem (by omega)⟩
  obtain ⟨x2, e2⟩ : ∃ x, xs[2]? = some x := ⟨xs[2], List.getElem?_eq_getElem (by omega)⟩
  have c0 : x0 % 4 = 0 ∨ x0 % 4 = 1 ∨ x0 % 4 = 2 ∨ x0 % 4 = 3 := by omega
  have c2 : x2 % 2 = 0 ∨ x2 % 2 = 1 := by omega
  have c3 : x2 % 3 = 0 ∨ x2 % 3 = 1 ∨ x2 % 3 = 2 := by omega
  rcases c0 with c0 | c0 | c0 | c0
  · rcases c2 with c2 | c2
    · exact t_23_s_0 h.2 e0 e1 e2 c0 c2
    · exact t_23_s_1 h.2 e0 e1 e2 c0 c2
  · rcases c2 with c2 | c2
    · exact t_24_s_0 h.2 e0 e1 e2 c0 c2
    · exact t_24_s_1 h.2 e0 e1 e2 c0 c2
  · rcases c3 with c3 | c3 | c3
    · exact t_33_s_0 h.2 e0 e1 e2 c0 c3
    · exact t_33_s_1 h.2 e0 e1 e2 c0 c3
    · exact t_33_s_2 h.2 e0 e1 e2 c0 c3
  · by_cases c1 : x1 % 2 = 0
    · rcases c2 with c2 | c2
      · exact t_25_d_0 h.2 e0 e1 e2 c0 c1 c2
      · exact t_25_d_1 h.2 e0 e1 e2 c0 c1 c2
    · rcases c2 with c2 | c2
      · exact t_25_s_0 h.2 e0 e1 e2 c0 c1 c2
      · exact t_25_s_1 h.2 e0 e1 e2 c0 c1 c2
end Kp
end
-- part KpHd
section
set_option autoImplicit false
set_option Elab.async false
set_option maxRecDepth 100000
namespace Kp
open PySem PySem.W PyProof.Rows
theorem e39 : ∀ P, a39 = (kP P).map (·.1) := fun _ => by kernel_rfl
theorem said39 : PySem.Challenge.rw_nt0434_01.wellSaid = true := by kernel_rfl
theorem ok39 : (chainsOk q39 && opensWell PySem.Challenge.rw_nt0434_01.row.prog && (frees PySem.Challenge.rw_nt0434_01.row.toRowW && PySem.Challenge.rw_nt0434_01.row.within.isEmpty)) = true := by kernel_rfl
theorem left39 : LeftO PySem.Challenge.rw_nt0434_01.row.prog q39 [] (fun s => xlAt q39 [] s && recOk PySem.Challenge.rw_nt0434_01.row.records s) (kHook kP a39 e39).obs (kHook kP a39 e39).val 4046 := fun w => by kernel_rfl
end Kp
end
-- part KpFinalS
section
set_option autoImplicit false
set_option linter.unusedVariables false
set_option Elab.async false
namespace Kp
open PySem PySem.W PyProof.Rows PySem.Calls


set_option maxRecDepth 100000 in
set_option maxHeartbeats 8000000 in
theorem main : PySem.Challenge.rw_nt0434_01.Holds := by
  refine holds_law said39 fun said => ?_
  refine PySem.W.holds_open (q := q39) (loose := []) (Xt := fun s => xlAt q39 [] s && recOk PySem.Challenge.rw_nt0434_01.row.records s) (XP := PySem.W.XL q39 []) (Yf := (kHook kP a39 e39).obs) (Ya := (kHook kP a39 e39).val) (YP := (kHook kP a39 e39).says) (N := 4046) left39 (kHook kP a39 e39).of (kHook kP a39 e39).keeps (fun s e => xl_of s (Bool.and_eq_true_iff.mp e).1) PySem.W.XL.keeps (by rfl) (by rfl) (by rfl) (fun s e => recFacts_of (Bool.and_eq_true_iff.mp e).2) (by rfl) said ok39 ⟨rfl, rfl, rfl, rfl, rfl, by decide +kernel⟩ ⟨[.list []], by decide +kernel, by decide +kernel⟩ ?_
  k_go0
  all_goals try k_fold
  rename_i w s₀ s₁ mg mb G Y fa o pm doc kV ho hg KX X V GL T B TE TW w9 w8 M w7 w6 hcd ns hs hlay0 hL1 hr1 hl2 w4 w3 w2 us w0 hL ra w1' r0 hI hr hcond1 hcond2 K0 hD h₁ F N0
  refine wpAny_execs_cons ?_
  refine wpAny_mono (Q := fun fl s' => fl = .next ∧ AtS s₁.heap s₁.heap.objs.size ns #[] s₁.os s') (E := fun _ _ => False) ?_ (fun fl s' z => ?_) (fun _ _ z => z.elim)
  · k_steps
    · trivial
    · rename_i D ws h1 hI2 l1 h2 F2 N2
      exact ⟨D, ws, _, ⟨_, 0, (N2 _ (.head _)).1, rfl, rfl, rfl⟩, hI2, (N2 _ (.head _)).2.2, Nat.lt_of_lt_of_le (by decide : sysModules < 3) (by omega : (3 : Nat) ≤ D), (N2 _ (.head _)).2.1, F2, rfl, hg, rfl⟩
  · obtain ⟨rfl, z⟩ := z
    dsimp only
    with_reducible refine law_end (w := w) (h₀ := s₁.heap) (mg := mg) (mb := mb) (ns := ns) (os := s₁.os) KX T.nolimit T.g T.b ?qnob ?qhn z ?qT ?qok ?qfin ?qhQ
    case qnob => exact nob_of KX T.g T.builtins
    case qhn => rfl
    case qT => exact told_all _ (cells_len _)
    case qok => exact ok_of rfl (by decide +kernel) (by decide +kernel) (by decide +kernel)
    case qhQ =>
      intro s' k g' o'
      exact ⟨.inl ⟨.bool true, .bool true, [], rfl, fun cls => rfl, .bool true, postW_of (X := true) (by first | rfl | kernel_rfl) (by first | rfl | kernel_rfl) rfl, fun h => ⟨List.nodup_nil, fun _ h => by cases h⟩⟩, k, o', g'⟩
    case qfin =>
      clear z Y X V GL T B TE TW M hcd hs hlay0 hL1 hr1 hl2 hL ra w1' r0 hI hr hcond1 hcond2 K0 hD F N0 KX
      intro G B hmE hbE ok KA KB hB hA
      with_reducible refine fin_1 ?p1 ?q1
      case p1 =>
        exact (ss_unpack ok (he_cons rfl (he_cons rfl he_nil)) rfl (es_sub (es_list (ls_cons (es_tup (ls_cons (es_int rfl) (ls_cons (es_int rfl) ls_nil))) (ls_cons (es_tup (ls_cons (es_int rfl) (ls_cons (es_int rfl) ls_nil))) (ls_cons (es_tup (ls_cons (es_int rfl) (ls_cons (es_int rfl) ls_nil))) (ls_cons (es_tup (ls_cons (es_int rfl) (ls_cons (es_int rfl) ls_nil))) ls_nil))))) (es_bin (op_mod _) (es_sub (es_loc ok rfl) (es_int rfl)) (es_int rfl))))
      with_reducible refine fin_2 ?p2 ?q2
      case p2 =>
        exact (ss_set ok rfl (es_bin (op_mul _) (es_loc ok rfl) (es_loc ok rfl)))
      with_reducible refine fin_3 ?p3 ?q3
      case p3 =>
        exact (ss_set ok rfl (es_cmp (cm_eq _) (es_loc ok rfl) (es_int rfl)))
      with_reducible refine fin_4 ?p4 ?q4
      case p4 =>
        exact (ss_set ok rfl (es_boolv (bv_and (es_loc ok rfl) (bv_one (es_cmp (cm_eq _) (es_bin (op_mod _) (es_sub (es_loc ok rfl) (es_int rfl)) (es_int rfl)) (es_int rfl))))))
      with_reducible refine fin_5 ?p5 ?q5
      case p5 =>
        exact (ss_set ok rfl (es_call ok (by kernel_rfl) (by kernel_rfl) (at_make_geometry B) ((fs_make_geometry B).more (by decide)) (ls_cons (es_loc ok rfl) (ls_cons (es_loc ok rfl) (ls_cons (es_loc ok rfl) (ls_cons es_bool ls_nil))))))
      with_reducible refine fin_6 ?p6 ?q6
      case p6 =>
        exact (ss_set ok rfl (es_call ok (by kernel_rfl) (by kernel_rfl) (at_build_kpk B) ((fs_build_kpk B).more (by decide)) (ls_cons (es_loc ok rfl) ls_nil)))
      with_reducible refine fin_7 ?p7 ?q7
      case p7 =>
        exact (ss_set ok rfl (es_call ok (by kernel_rfl) (by kernel_rfl) (at__law_near B) ((fs__law_near B).more (by decide)) (ls_cons (es_loc ok rfl) (ls_cons (es_loc ok rfl) ls_nil))))
      with_reducible refine FinS.imp (m := m8 KA) ?_ hB
      with_reducible refine fin_8 ?p8 ?q8
      case p8 =>
        exact (ss_set ok rfl (es_bin (op_mod _) (es_sub (es_loc ok rfl) (es_int rfl)) (es_loc ok rfl)))
      with_reducible refine fin_9 ?p9 ?q9
      case p9 =>
        exact (ss_if (ts_cmp (cm_ne _) (es_len ok (by kernel_rfl) (es_loc ok rfl)) (es_bin (op_mul _) (es_bin (op_mul _) (es_bin (op_mul _) (es_bin (op_mul _) (es_bin (op_div _) (es_bin (op_add _) (es_loc ok rfl) (es_int rfl)) (es_int rfl)) (es_bin (op_sub _) (es_loc ok rfl) (es_int rfl))) (es_int rfl)) (es_loc ok rfl)) (es_loc ok rfl)))
         (bs_one (ss_ret es_bool))
         bs_nil)
      with_reducible refine fin_10 ?p10 ?q10
      case p10 =>
        exact (ss_set ok rfl es_dict)
      with_reducible refine fin_11 ?p11 ?q11
      case p11 =>
        exact (ss_if (ts_not (TS.of (es_loc ok rfl)))
         (bs_cons (ss_set ok rfl (es_call ok (by kernel_rfl) (by kernel_rfl) (at__law_solve B) ((fs__law_solve B).more (by decide)) (ls_cons (es_loc ok rfl) (ls_cons (es_loc ok rfl) (ls_cons (es_loc ok rfl) (ls_cons (es_loc ok rfl) ls_nil))))))
         (bs_one (ss_for (tgt_var ok rfl) (es_loc ok rfl)
          (bs_cons (ss_unpack ok (he_cons rfl (he_cons rfl (he_cons rfl (he_cons rfl he_nil)))) rfl (es_loc ok rfl))
          (bs_cons (ss_if (ts_bool (at_and (ts_cmp (cm_ne _) (es_loc ok rfl) (es_loc ok rfl)) (at_one (ts_notin (es_loc ok rfl) (es_sub (es_loc ok rfl) (es_loc ok rfl))))))
           (bs_cons (ss_set ok rfl (es_sub (es_list (ls_cons (es_int rfl) (ls_cons (es_int rfl) (ls_cons (es_int rfl) (ls_cons (es_int rfl) ls_nil))))) (es_sub (es_call ok (by kernel_rfl) (by kernel_rfl) (at__law_after B) ((fs__law_after B).more (by decide)) (ls_cons (es_loc ok rfl) (ls_cons (es_loc ok rfl) (ls_cons es_bool (ls_cons (es_loc ok rfl) (ls_cons (es_loc ok rfl) (ls_cons (es_loc ok rfl) (ls_cons (es_loc ok rfl) (ls_cons (es_loc ok rfl) ls_nil))))))))) (es_int rfl))))
           (bs_one (ss_if (ts_cmp (cm_ne _) (es_call ok (by kernel_rfl) (by kernel_rfl) (at_first_result B) ((fs_first_result B).more (by decide)) (ls_cons (es_loc ok rfl) (ls_cons (es_loc ok rfl) (ls_cons (es_loc ok rfl) (ls_cons (es_loc ok rfl) (ls_cons (es_loc ok rfl) ls_nil)))))) (es_loc ok rfl))
            (bs_one (ss_ret es_bool))
            bs_nil)))
           bs_nil)
          (bs_one (ss_if (ts_cmp (cm_ne _) (es_call ok (by kernel_rfl) (by kernel_rfl) (at_probe_kpk B) ((fs_probe_kpk B).more (by decide)) (ls_cons (es_loc ok rfl) (ls_cons (es_loc ok rfl) (ls_cons (es_sub (es_loc ok rfl) (es_int rfl)) (ls_cons (es_sub (es_loc ok rfl) (es_int rfl)) (ls_cons (es_sub (es_loc ok rfl) (es_int rfl)) (ls_cons (es_sub (es_loc ok rfl) (es_int rfl)) ls_nil))))))) (es_sub (es_loc ok rfl) (es_loc ok rfl)))
           (bs_one (ss_ret es_bool))
           bs_nil)))))))
         bs_nil)
      with_reducible refine FinS.imp (m := m12) ?_ hA
      with_reducible refine fin_12 (base := G.h₀) ?p12 ?q12
      case p12 =>
        refine ssx_for (tgt_var ok rfl) (es_range3 ok (by kernel_rfl) (es_int rfl) (es_bin (op_sub _) (es_len ok (by kernel_rfl) (es_loc ok rfl)) (es_int rfl)) (es_int rfl)) (bsx_turn (bodyX := bodyX) fun h0 L k => ?_)
        have B' : Own (refz G h0 L k) := ⟨B.K, B.C, B.fI⟩
        unfold bodyX
        exact (bsx_cons (SSX.of (ss_set ok rfl (es_bin (op_mod _) (es_sub (es_loc ok rfl) (es_loc ok rfl)) (es_bin (op_add _) (es_loc ok rfl) (es_int rfl)))))
        (bsx_cons (SSX.of (ss_set ok rfl (es_bin (op_add _) (es_bin (op_mul _) (es_bin (op_mod _) (es_bin (op_add _) (es_sub (es_loc ok rfl) (es_bin (op_add _) (es_loc ok rfl) (es_int rfl))) (es_int rfl)) (es_bin (op_add _) (es_loc ok rfl) (es_int rfl))) (es_loc ok rfl)) (es_loc ok rfl))))
        (bsx_cons (SSX.of (ss_if (ts_cmp (cm_eq _) (es_bin (op_mod _) (es_bin (op_div _) (es_sub (es_loc ok rfl) (es_bin (op_add _) (es_loc ok rfl) (es_int rfl))) (es_bin (op_add _) (es_loc ok rfl) (es_int rfl))) (es_int rfl)) (es_int rfl))
         (bs_one (ss_set ok rfl (es_call ok (by kernel_rfl) (by kernel_rfl) (at__law_mirror B') ((fs__law_mirror B').more (by decide)) (ls_cons (es_loc ok rfl) (ls_cons (es_loc ok rfl) ls_nil)))))
         bs_nil))
        (bsx_cons (SSX.of (ss_set ok rfl (es_bin (op_mod _) (es_bin (op_sub _) (es_bin (op_add _) (es_sub (es_loc ok rfl) (es_bin (op_add _) (es_loc ok rfl) (es_int rfl))) (es_loc ok rfl)) (es_int rfl)) (es_bin (op_add _) (es_loc ok rfl) (es_int rfl)))))
        (bsx_cons (SSX.of (ss_set ok rfl (es_bin (op_mod _) (es_sub (es_loc ok rfl) (es_bin (op_add _) (es_loc ok rfl) (es_int rfl))) (es_int rfl))))
        (bsx_cons (SSX.of (ss_set ok rfl (es_bin (op_mod _) (es_bin (op_div _) (es_sub (es_loc ok rfl) (es_bin (op_add _) (es_loc ok rfl) (es_int rfl))) (es_int rfl)) (es_int rfl))))
        (bsx_cons (SSX.of (ss_if (ts_cmp (cm_eq _) (es_loc ok rfl) (es_bin (op_add _) (es_loc ok rfl) (es_int rfl)))
         (bs_one (ss_set ok rfl (es_neg (es_int rfl))))
         bs_nil))
        (bsx_cons (SSX.of (ss_if (ts_cmp (cm_eq _) (es_loc ok rfl) (es_bin (op_add _) (es_loc ok rfl) (es_int rfl)))
         (bs_one (ss_set ok rfl (es_neg (es_int rfl))))
         bs_nil))
        (bsx_cons (SSX.of (ss_set ok rfl (es_not (es_boolv (bv_and (es_cmp2 (cm_le _) (cm_lt _) (es_int rfl) (es_loc ok rfl) (es_loc ok rfl)) (bv_and (es_cmp2 (cm_le _) (cm_lt _) (es_int rfl) (es_loc ok rfl) (es_loc ok rfl)) (bv_one (es_cmp2 (cm_le _) (cm_lt _) (es_loc ok rfl) (es_loc ok rfl) (es_bin (op_sub _) (es_loc ok rfl) (es_loc ok rfl))))))))))
        (bsx_cons (SSX.of (ss_set ok rfl (es_neg (es_int rfl))))
        (bsx_cons (ssx_try B' hmE hbE ok (by decide) (by kernel_rfl) (by kernel_rfl) rfl rfl (ss_set ok rfl (es_call ok (by kernel_rfl) (by kernel_rfl) (at_probe_for B') ((fs_probe_for B').more (by decide)) (ls_cons (es_loc ok rfl) (ls_cons (es_loc ok rfl) (ls_cons (es_loc ok rfl) (ls_cons (es_loc ok rfl) (ls_cons (es_loc ok rfl) (ls_cons (es_loc ok rfl) (ls_cons (es_loc ok rfl) ls_nil))))))))) (fun G' => (ls_cons (es_loc ok rfl) (ls_cons (es_loc ok rfl) (ls_cons (es_loc ok rfl) (ls_cons (es_loc ok rfl) (ls_cons (es_loc ok rfl) (ls_cons (es_loc ok rfl) (ls_cons (es_loc ok rfl) ls_nil)))))))))
        (bsx_cons (SSX.of (ss_if (TS.of (es_loc ok rfl))
         (bs_cons (ss_if (ts_cmp (cm_ne _) (es_loc ok rfl) (es_neg (es_int rfl)))
          (bs_one (ss_ret es_bool))
          bs_nil)
         (bs_one ss_cont))
         bs_nil))
        (bsx_cons (SSX.of (ss_if (ts_cmp (cm_eq _) (es_loc ok rfl) (es_int rfl))
         (bs_cons (ss_set ok rfl (es_call ok (by kernel_rfl) (by kernel_rfl) (at__law_turn B') ((fs__law_turn B').more (by decide)) (ls_cons (es_loc ok rfl) (ls_cons (es_loc ok rfl) (ls_cons (es_loc ok rfl) ls_nil)))))
         (bs_cons (ss_set ok rfl (es_call ok (by kernel_rfl) (by kernel_rfl) (at__law_turn B') ((fs__law_turn B').more (by decide)) (ls_cons (es_loc ok rfl) (ls_cons (es_loc ok rfl) (ls_cons (es_loc ok rfl) ls_nil)))))
         (bs_cons (ss_set ok rfl (es_call ok (by kernel_rfl) (by kernel_rfl) (at__law_turn B') ((fs__law_turn B').more (by decide)) (ls_cons (es_loc ok rfl) (ls_cons (es_loc ok rfl) (ls_cons (es_loc ok rfl) ls_nil)))))
         (bs_one (ss_set ok rfl (es_bin (op_sub _) (es_int rfl) (es_loc ok rfl)))))))
         bs_nil))
        (bsx_one (SSX.weak (SSX.of (ss_if (ts_not (TS.of (es_loc ok rfl)))
         (bs_cons (ss_if (ts_cmp (cm_ne _) (es_bin (op_mod _) (es_loc ok rfl) (es_loc ok rfl)) (es_loc ok rfl))
          (bs_cons (ss_set ok rfl (es_call ok (by kernel_rfl) (by kernel_rfl) (at__law_mirror B') ((fs__law_mirror B').more (by decide)) (ls_cons (es_loc ok rfl) (ls_cons (es_loc ok rfl) ls_nil))))
          (bs_cons (ss_set ok rfl (es_call ok (by kernel_rfl) (by kernel_rfl) (at__law_mirror B') ((fs__law_mirror B').more (by decide)) (ls_cons (es_loc ok rfl) (ls_cons (es_loc ok rfl) ls_nil))))
          (bs_one (ss_set ok rfl (es_call ok (by kernel_rfl) (by kernel_rfl) (at__law_mirror B') ((fs__law_mirror B').more (by decide)) (ls_cons (es_loc ok rfl) (ls_cons (es_loc ok rfl) ls_nil)))))))
          bs_nil)
         (bs_one (ss_if (ts_cmp (cm_ne _) (es_loc ok rfl) (es_sub (es_loc ok rfl) (es_tup (ls_cons (es_loc ok rfl) (ls_cons (es_loc ok rfl) (ls_cons (es_loc ok rfl) (ls_cons (es_loc ok rfl) ls_nil)))))))
          (bs_one (ss_ret es_bool))
          bs_nil)))
         (bs_cons (ss_unpack ok (he_cons rfl (he_cons rfl he_nil)) rfl (es_call ok (by kernel_rfl) (by kernel_rfl) (at__law_after B') ((fs__law_after B').more (by decide)) (ls_cons (es_loc ok rfl) (ls_cons (es_loc ok rfl) (ls_cons (es_loc ok rfl) (ls_cons (es_loc ok rfl) (ls_cons (es_loc ok rfl) (ls_cons (es_loc ok rfl) (ls_cons (es_loc ok rfl) (ls_cons (es_loc ok rfl) ls_nil))))))))))
         (bs_cons (ss_set ok rfl (es_int rfl))
         (bs_cons (ss_for (tgt_var ok rfl) (es_loc ok rfl)
          (bs_one (ss_if (ts_cmp (cm_eq _) (es_call ok (by kernel_rfl) (by kernel_rfl) (at_probe_kpk B') ((fs_probe_kpk B').more (by decide)) (ls_cons (es_loc ok rfl) (ls_cons (es_loc ok rfl) (ls_cons (es_sub (es_loc ok rfl) (es_int rfl)) (ls_cons (es_sub (es_loc ok rfl) (es_int rfl)) (ls_cons (es_sub (es_loc ok rfl) (es_int rfl)) (ls_cons (es_sub (es_loc ok rfl) (es_int rfl)) ls_nil))))))) (es_int rfl))
           (bs_one (ss_aug ok rfl (iop_add _) (es_int rfl)))
           bs_nil)))
         (bs_cons (ss_set ok rfl (es_int rfl))
         (bs_cons (ss_if (ts_cmp (cm_eq _) (es_loc ok rfl) (es_int rfl))
          (bs_one (ss_set ok rfl (es_int rfl)))
          bs_nil)
         (bs_cons (ss_if (ts_bool (at_or (ts_cmp (cm_eq _) (es_loc ok rfl) (es_int rfl)) (at_one (ts_bool (at_and (ts_cmp (cm_eq _) (es_loc ok rfl) (es_int rfl)) (at_one (TS.of (es_call ok (by kernel_rfl) (by kernel_rfl) (at__law_is_won B') ((fs__law_is_won B').more (by decide)) (ls_cons (es_loc ok rfl) (ls_cons (es_loc ok rfl) (ls_cons (es_len ok (by kernel_rfl) (es_loc ok rfl)) ls_nil)))))))))))
          (bs_one (ss_set ok rfl (es_int rfl)))
          bs_nil)
         (bs_one (ss_if (ts_cmp (cm_ne _) (es_loc ok rfl) (es_loc ok rfl))
          (bs_one (ss_ret es_bool))
          bs_nil)))))))))))))))))))))))))
      exact fin_ret

end Kp
end
set_option maxHeartbeats 4000000 in
theorem PySem.Challenge.cw_nt0434_01_holds : PySem.Challenge.rw_nt0434_01.Holds := by
  exact Kp.main
