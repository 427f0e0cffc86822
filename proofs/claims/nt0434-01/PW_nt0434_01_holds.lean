import PyProof.Rows.All
import Wide.All
import OpenK.AllK
import Wide.FinOn
import PySem.Challenge.RW_nt0434_01
-- the law of build_kpk: own texts, joined by a program of mine
set_option autoImplicit false
set_option linter.unusedVariables false
set_option Elab.async false
set_option compiler.extract_closed false
-- part KpCore
section
-- KpCore: abstract values, heap and combinators in continuation style (own work); written for the kernel's evaluation: recursors, bare Nat functions
set_option autoImplicit false
namespace Kp

inductive V where
  | unb | none | bool (b : Bool) | int (i : Int) | ref (n : Nat) | tup (vs : List V) | range (a b c : Int)

inductive AO where
  | no
  | list (xs : List V)
  | dict (ep : Nat) (kvs : List (V × V))
  | inst (fs : List V)

-- what a place of the heap stores: an object, or a list of small whole numbers packed in one number, sixteen bits each
inductive SO where
  | ob (o : AO)
  | pk (n len : Nat)

inductive Tr where
  | nil
  | node (v : SO) (l r : Tr)

noncomputable section
abbrev B := Bool

noncomputable def Tr.getS (t : Tr) : Nat → SO :=
  @Tr.rec (fun _ => Nat → SO) (fun _ => .ob .no)
    (fun v _ _ gl gr i => @Nat.rec (fun _ => SO) v (fun j _ => @Nat.rec (fun _ => SO) (gl (Nat.div j (nat_lit 2))) (fun _ _ => gr (Nat.div j (nat_lit 2))) (Nat.mod j (nat_lit 2))) i) t
noncomputable def unpk (len : Nat) : Nat → List V :=
  @Nat.rec (fun _ => Nat → List V) (fun _ => []) (fun _ ih n => .int (.ofNat (Nat.mod n (nat_lit 65536))) :: ih (Nat.div n (nat_lit 65536))) len
noncomputable def SO.view (s : SO) : AO := @SO.rec (fun _ => AO) (fun o => o) (fun n len => .list (unpk len n)) s
noncomputable def Tr.get (t : Tr) (i : Nat) : AO := SO.view (Tr.getS t i)

noncomputable def Tr.putNil (o : SO) (f : Nat) : Nat → Tr :=
  @Nat.rec (fun _ => Nat → Tr) (fun _ => .nil)
    (fun _ ih i => @Nat.rec (fun _ => Tr) (.node o .nil .nil) (fun j _ => @Nat.rec (fun _ => Tr) (.node (.ob .no) (ih (Nat.div j (nat_lit 2))) .nil) (fun _ _ => .node (.ob .no) .nil (ih (Nat.div j (nat_lit 2)))) (Nat.mod j (nat_lit 2))) i) f

noncomputable def Tr.putS (o : SO) (t : Tr) : Nat → Tr :=
  @Tr.rec (fun _ => Nat → Tr) (fun i => Tr.putNil o (Nat.succ i) i)
    (fun v l r pl pr i => @Nat.rec (fun _ => Tr) (.node o l r) (fun j _ => @Nat.rec (fun _ => Tr) (.node v (pl (Nat.div j (nat_lit 2))) r) (fun _ _ => .node v l (pr (Nat.div j (nat_lit 2)))) (Nat.mod j (nat_lit 2))) i) t
noncomputable def Tr.put (o : AO) (t : Tr) (i : Nat) : Tr := Tr.putS (.ob o) t i

structure H where
  t : Tr
  n : Nat
  r : Nat

abbrev Loc := List V
abbrev XE := Loc → H → (V → H → Bool) → Bool
abbrev XL := Loc → H → (List V → H → Bool) → Bool
abbrev Fn := List V → H → (V → H → Bool) → Bool
abbrev KN := Loc → H → Bool
abbrev KR := V → H → Bool
abbrev XS := Loc → H → KN → KR → KN → KN → Bool

noncomputable def getV (xs : List V) : Nat → V :=
  @List.rec V (fun _ => Nat → V) (fun _ => .unb) (fun x _ ih i => @Nat.rec (fun _ => V) x (fun j _ => ih j) i) xs
noncomputable def setV (v : V) (xs : List V) : Nat → List V :=
  @List.rec V (fun _ => Nat → List V) (fun _ => []) (fun x r ih i => @Nat.rec (fun _ => List V) (v :: r) (fun j _ => x :: ih j) i) xs
-- strict: the new list is built before it is handed on
noncomputable def setK (v : V) (xs : List V) : Nat → (List V → Bool) → Bool :=
  @List.rec V (fun _ => Nat → (List V → Bool) → Bool) (fun _ k => k []) (fun x r ih i k => @Nat.rec (fun _ => Bool) (k (v :: r)) (fun j _ => ih j fun ys => k (x :: ys)) i) xs
noncomputable def snocK (v : V) (xs : List V) : (List V → Bool) → Bool :=
  @List.rec V (fun _ => (List V → Bool) → Bool) (fun k => k [v]) (fun x _ ih k => ih fun ys => k (x :: ys)) xs
noncomputable def dropV (xs : List V) : Nat → List V :=
  @List.rec V (fun _ => Nat → List V) (fun _ => []) (fun x r ih i => @Nat.rec (fun _ => List V) (x :: r) (fun j _ => ih j) i) xs
noncomputable def lenV (xs : List V) : Nat := @List.rec V (fun _ => Nat → Nat) (fun n => n) (fun _ _ ih n => ih (Nat.succ n)) xs (nat_lit 0)

-- ints
noncomputable def bcase (b : Bool) (t f : Bool) : Bool := @Bool.rec (fun _ => Bool) f t b
noncomputable def isub (a b : Nat) : Int := @Nat.rec (fun _ => Int) (.ofNat (Nat.sub a b)) (fun k _ => .negSucc k) (Nat.sub b a)
noncomputable def iadd (a b : Int) : Int :=
  @Int.rec (fun _ => Int)
    (fun m => @Int.rec (fun _ => Int) (fun n => .ofNat (Nat.add m n)) (fun n => isub m (Nat.succ n)) b)
    (fun m => @Int.rec (fun _ => Int) (fun n => isub n (Nat.succ m)) (fun n => .negSucc (Nat.succ (Nat.add m n))) b) a
noncomputable def ineg (a : Int) : Int := @Int.rec (fun _ => Int) (fun m => @Nat.rec (fun _ => Int) (.ofNat (nat_lit 0)) (fun k _ => .negSucc k) m) (fun n => .ofNat (Nat.succ n)) a
noncomputable def imul (a b : Int) : Int := @Int.rec (fun _ => Int) (fun m => @Int.rec (fun _ => Int) (fun n => .ofNat (Nat.mul m n)) (fun _ => Int.mul a b) b) (fun _ => Int.mul a b) a
noncomputable def bnot (x : Int) : Int := @Int.rec (fun _ => Int) (fun m => .negSucc m) (fun m => .ofNat m) x
noncomputable def iand (a b : Int) : Int :=
  @Int.rec (fun _ => Int)
    (fun m => @Int.rec (fun _ => Int) (fun n => .ofNat (Nat.land m n)) (fun n => .ofNat (Nat.sub m (Nat.land m n))) b)
    (fun m => @Int.rec (fun _ => Int) (fun n => .ofNat (Nat.sub n (Nat.land n m))) (fun n => .negSucc (Nat.lor m n)) b) a
noncomputable def ior (a b : Int) : Int := @Int.rec (fun _ => Int) (fun m => @Int.rec (fun _ => Int) (fun n => .ofNat (Nat.lor m n)) (fun _ => bnot (iand (bnot a) (bnot b))) b) (fun _ => bnot (iand (bnot a) (bnot b))) a
noncomputable def ieq (a b : Int) : Bool :=
  @Int.rec (fun _ => Bool)
    (fun m => @Int.rec (fun _ => Bool) (fun n => Nat.beq m n) (fun _ => false) b)
    (fun m => @Int.rec (fun _ => Bool) (fun _ => false) (fun n => Nat.beq m n) b) a
noncomputable def ilt (a b : Int) : Bool :=
  @Int.rec (fun _ => Bool)
    (fun m => @Int.rec (fun _ => Bool) (fun n => Nat.ble (Nat.succ m) n) (fun _ => false) b)
    (fun m => @Int.rec (fun _ => Bool) (fun _ => true) (fun n => Nat.ble (Nat.succ n) m) b) a
noncomputable def bnt (b : Bool) : Bool := @Bool.rec (fun _ => Bool) true false b

abbrev Op := Int → Int → (Int → Bool) → Bool
noncomputable def oadd : Op := fun a b k => k (iadd a b)
noncomputable def osub : Op := fun a b k => k (iadd a (ineg b))
noncomputable def small (a : Int) (t f : Bool) : Bool := bcase (ilt a (.ofNat (nat_lit 1152921504606846976))) (bcase (ilt (.negSucc (nat_lit 1152921504606846976)) a) t f) f
noncomputable def omul : Op := fun a b k => small a (k (imul a b)) false
noncomputable def nat2 (a b : Int) (f : Nat → Nat → Bool) : Bool :=
  @Int.rec (fun _ => Bool) (fun m => @Int.rec (fun _ => Bool) (fun n => f m n) (fun _ => false) b) (fun _ => false) a
noncomputable def pos2 (a b : Int) (f : Int → Bool) : Bool := @Int.rec (fun _ => Bool) (fun n => @Nat.rec (fun _ => Bool) false (fun _ _ => bcase (Nat.ble n (nat_lit 1000000)) (f a) false) n) (fun _ => false) b
noncomputable def ifdiv (a b : Int) : Int := @Int.rec (fun _ => Int) (fun m => @Int.rec (fun _ => Int) (fun n => .ofNat (Nat.div m n)) (fun _ => Int.fdiv a b) b) (fun _ => Int.fdiv a b) a
noncomputable def ifmod (a b : Int) : Int := @Int.rec (fun _ => Int) (fun m => @Int.rec (fun _ => Int) (fun n => .ofNat (Nat.mod m n)) (fun _ => Int.fmod a b) b) (fun _ => Int.fmod a b) a
noncomputable def odiv : Op := fun a b k => pos2 a b fun _ => k (ifdiv a b)
noncomputable def omod : Op := fun a b k => pos2 a b fun _ => k (ifmod a b)
noncomputable def oshl : Op := fun a b k => nat2 a b fun m n => bcase (Nat.ble n (nat_lit 60)) (bcase (Nat.ble m (nat_lit 1152921504606846976)) (k (.ofNat (Nat.shiftLeft m n))) false) false
noncomputable def oshr : Op := fun a b k => nat2 a b fun m n => k (.ofNat (Nat.shiftRight m n))
noncomputable def oand : Op := fun a b k => k (iand a b)
noncomputable def oor : Op := fun a b k => k (ior a b)
noncomputable def oxor : Op := fun a b k => k (iadd (ior a b) (ineg (iand a b)))

abbrev Cm := Int → Int → Bool
noncomputable def ceq : Cm := ieq
noncomputable def cne : Cm := fun a b => bnt (ieq a b)
noncomputable def clt : Cm := ilt
noncomputable def cle : Cm := fun a b => bnt (ilt b a)
noncomputable def cgt : Cm := fun a b => ilt b a
noncomputable def cge : Cm := fun a b => bnt (ilt a b)

noncomputable def asInt (v : V) (k : Int → Bool) : Bool :=
  @V.rec (fun _ => Bool) (fun _ => Bool) false false (fun _ => false) (fun i => k i) (fun _ => false) (fun _ _ => false) (fun _ _ _ => false) false (fun _ _ _ _ => false) v
noncomputable def asNat (v : V) (k : Nat → Bool) : Bool := asInt v fun i => @Int.rec (fun _ => Bool) (fun n => k n) (fun _ => false) i
noncomputable def asRef (v : V) (k : Nat → Bool) : Bool :=
  @V.rec (fun _ => Bool) (fun _ => Bool) false false (fun _ => false) (fun _ => false) (fun n => k n) (fun _ _ => false) (fun _ _ _ => false) false (fun _ _ _ _ => false) v
noncomputable def asTup (v : V) (k : List V → Bool) : Bool :=
  @V.rec (fun _ => Bool) (fun _ => Bool) false false (fun _ => false) (fun _ => false) (fun _ => false) (fun vs _ => k vs) (fun _ _ _ => false) false (fun _ _ _ _ => false) v
noncomputable def truthy (v : V) (k : Bool → Bool) : Bool :=
  @V.rec (fun _ => Bool) (fun _ => Bool) false false (fun b => k b) (fun i => k (bnt (ieq i (.ofNat (nat_lit 0))))) (fun _ => false) (fun _ _ => false) (fun _ _ _ => false) false (fun _ _ _ _ => false) v
noncomputable def known (v : V) (k : V → Bool) : Bool :=
  @V.rec (fun _ => Bool) (fun _ => Bool) false (k .none) (fun b => k (.bool b)) (fun i => k (.int i)) (fun n => k (.ref n)) (fun vs _ => k (.tup vs)) (fun a b c => k (.range a b c)) false (fun _ _ _ _ => false) v
noncomputable def objCase (o : AO) (fl : List V → Bool) (fd : Nat → List (V × V) → Bool) (fi : List V → Bool) : Bool := @AO.rec (fun _ => Bool) false fl fd fi o
noncomputable def getT (h : H) (n : Nat) : AO := @H.rec (fun _ => AO) (fun t _ _ => t.get n) h
noncomputable def getS (h : H) (n : Nat) : SO := @H.rec (fun _ => SO) (fun t _ _ => t.getS n) h
noncomputable def soCase (s : SO) (fo : AO → Bool) (fp : Nat → Nat → Bool) : Bool := @SO.rec (fun _ => Bool) fo fp s
noncomputable def forceN (n : Nat) (k : Nat → Bool) : Bool := @Nat.rec (fun _ => Bool) (k (nat_lit 0)) (fun m _ => k (Nat.succ m)) n
noncomputable def small16 (v : V) (k : Nat → Bool) : Bool := asNat v fun m => bcase (Nat.ble (Nat.succ m) (nat_lit 65536)) (k m) false
noncomputable def digP (n p : Nat) : Nat := Nat.mod (Nat.div n p) (nat_lit 65536)
noncomputable def setP (n p m : Nat) : Nat := Nat.add (Nat.sub n (Nat.mul (digP n p) p)) (Nat.mul m p)
noncomputable def nthP (n len : Nat) (i : Int) (k : V → Bool) : Bool := @Int.rec (fun _ => Bool) (fun j => bcase (Nat.ble j (nat_lit 1000000)) (bcase (Nat.ble (Nat.succ j) len) (k (.int (.ofNat (digP n (Nat.pow (nat_lit 65536) j))))) false) false) (fun _ => false) i
noncomputable def asList (v : V) (h : H) (k : Nat → List V → Bool) : Bool := asRef v fun n => @AO.rec (fun _ => Bool) false (fun xs => k n xs) (fun _ _ => false) (fun _ => false) (getT h n)

-- expressions
noncomputable def xlit (v : V) : XE := fun _ h k => k v h
noncomputable def xloc (i : Nat) : XE := fun l h k => known (getV l i) fun v => k v h
noncomputable def xbin (o : Op) (a b : XE) : XE := fun l h k => a l h fun va h => b l h fun vb h => asInt va fun i => asInt vb fun j => o i j fun r => k (.int r) h
noncomputable def xneg (a : XE) : XE := fun l h k => a l h fun va h => asInt va fun i => k (.int (ineg i)) h
noncomputable def xinv (a : XE) : XE := fun l h k => a l h fun va h => asInt va fun i => k (.int (bnot i)) h
noncomputable def xnot (a : XE) : XE := fun l h k => a l h fun va h => truthy va fun b => k (.bool (bnt b)) h
noncomputable def xand (a b : XE) : XE := fun l h k => a l h fun va h => truthy va fun t => bcase t (b l h k) (k va h)
noncomputable def xor (a b : XE) : XE := fun l h k => a l h fun va h => truthy va fun t => bcase t (k va h) (b l h k)
noncomputable def xcmp (c : Cm) (a b : XE) : XE := fun l h k => a l h fun va h => b l h fun vb h => asInt va fun i => asInt vb fun j => k (.bool (c i j)) h
noncomputable def xcmp2 (c d : Cm) (a b e : XE) : XE := fun l h k => a l h fun va h => b l h fun vb h => asInt va fun i => asInt vb fun j =>
  bcase (c i j) (e l h fun ve h => asInt ve fun m => k (.bool (d j m)) h) (k (.bool false) h)

noncomputable def keyEq (xs : List V) : List V → Bool :=
  @List.rec V (fun _ => List V → Bool) (fun ys => @List.rec V (fun _ => Bool) true (fun _ _ _ => false) ys)
    (fun x _ ih ys => @List.rec V (fun _ => Bool) false (fun y s _ => asInt x fun a => asInt y fun b => bcase (ieq a b) (ih s) false) ys) xs
noncomputable def allInts (xs : List V) : Bool := @List.rec V (fun _ => Bool) true (fun x _ ih => asInt x fun _ => ih) xs
noncomputable def memInts (i : Int) (xs : List V) : (Bool → Bool) → Bool :=
  @List.rec V (fun _ => (Bool → Bool) → Bool) (fun k => k false) (fun x _ ih k => asInt x fun j => bcase (ieq j i) (bcase (allInts xs) (k true) false) (ih k)) xs
noncomputable def dfind (key : List V) (kvs : List (V × V)) (no : Bool) : Nat → (Nat → V → Bool) → Bool :=
  @List.rec (V × V) (fun _ => Nat → (Nat → V → Bool) → Bool) (fun _ _ => no)
    (fun p _ ih n k => @Prod.rec V V (fun _ => Bool) (fun q v => asTup q fun q => bcase (keyEq q key) (k n v) (ih (Nat.succ n) k)) p) kvs
noncomputable def asKey (v : V) (k : List V → Bool) : Bool := asTup v fun q => bcase (allInts q) (k q) false
noncomputable def xin (a b : XE) : XE := fun l h k => a l h fun va h => b l h fun vb h => asRef vb fun n =>
  objCase (getT h n) (fun xs => asInt va fun i => memInts i xs fun r => k (.bool r) h) (fun _ kvs => asKey va fun q => dfind q kvs (k (.bool false) h) (nat_lit 0) fun _ _ => k (.bool true) h) (fun _ => false)
noncomputable def xnotin (a b : XE) : XE := fun l h k => xin a b l h fun v h => truthy v fun b => k (.bool (bnt b)) h
noncomputable def xattr (o : XE) (i : Nat) : XE := fun l h k => o l h fun v h => asRef v fun n => objCase (getT h n) (fun _ => false) (fun _ _ => false) (fun fs => known (getV fs i) fun v => k v h)
noncomputable def nth (xs : List V) (i : Int) (k : V → Bool) : Bool := @Int.rec (fun _ => Bool) (fun n => bcase (Nat.ble n (nat_lit 1000000)) (known (getV xs n) k) false) (fun _ => false) i
noncomputable def xsub (o i : XE) : XE := fun l h k => o l h fun v h => i l h fun w h =>
  @V.rec (fun _ => Bool) (fun _ => Bool) false false (fun _ => false) (fun _ => false)
    (fun n => soCase (getS h n) (fun o => objCase o (fun xs => asInt w fun j => nth xs j fun v => k v h) (fun _ kvs => asKey w fun q => dfind q kvs false (nat_lit 0) fun _ v => k v h) (fun _ => false)) (fun n len => asInt w fun j => nthP n len j fun v => k v h))
    (fun xs _ => asInt w fun j => nth xs j fun v => k v h) (fun _ _ _ => false) false (fun _ _ _ _ => false) v
noncomputable def enil : XL := fun _ h k => k [] h
noncomputable def econs (e : XE) (r : XL) : XL := fun l h k => e l h fun v h => r l h fun vs h => k (v :: vs) h
noncomputable def xcall (f : Fn) (as : XL) : XE := fun l h k => as l h fun vs h => f vs h k
noncomputable def alloc (o : AO) (h : H) (k : V → H → Bool) : Bool := @H.rec (fun _ => Bool) (fun t n r => k (.ref n) ⟨t.put o n, Nat.succ n, r⟩) h
noncomputable def store (o : AO) (n : Nat) (h : H) (k : H → Bool) : Bool := @H.rec (fun _ => Bool) (fun t m r => bcase (Nat.ble r n) (k ⟨t.put o n, m, r⟩) false) h
noncomputable def allocS (o : SO) (h : H) (k : V → H → Bool) : Bool := @H.rec (fun _ => Bool) (fun t n r => k (.ref n) ⟨t.putS o n, Nat.succ n, r⟩) h
noncomputable def storeS (o : SO) (n : Nat) (h : H) (k : H → Bool) : Bool := @H.rec (fun _ => Bool) (fun t m r => bcase (Nat.ble r n) (k ⟨t.putS o n, m, r⟩) false) h
noncomputable def xlist (es : XL) : XE := fun l h k => es l h fun vs h => bcase (Nat.ble (lenV vs) (nat_lit 1000000)) (alloc (.list vs) h k) false
noncomputable def xtup (es : XL) : XE := fun l h k => es l h fun vs h => bcase (Nat.ble (lenV vs) (nat_lit 1000000)) (k (.tup vs) h) false
noncomputable def xdict : XE := fun _ h k => alloc (.dict (nat_lit 0) []) h k
noncomputable def xlen (a : XE) : XE := fun l h k => a l h fun v h => asList v h fun _ xs => bcase (Nat.ble (lenV xs) (nat_lit 1000000)) (k (.int (.ofNat (lenV xs))) h) false
noncomputable def iabs (i : Int) : Int := @Int.rec (fun _ => Int) (fun n => .ofNat n) (fun n => .ofNat (Nat.succ n)) i
noncomputable def xabs (a : XE) : XE := fun l h k => a l h fun v h => asInt v fun i => k (.int (iabs i)) h
noncomputable def xmin (a b : XE) : XE := fun l h k => a l h fun v h => b l h fun w h => asInt v fun i => asInt w fun j => bcase (ilt j i) (k (.int j) h) (k (.int i) h)
noncomputable def xrange1 (a : XE) : XE := fun l h k => a l h fun v h => asInt v fun i => small i (k (.range (.ofNat (nat_lit 0)) i (.ofNat (nat_lit 1))) h) false
noncomputable def xrange2 (a b : XE) : XE := fun l h k => a l h fun v h => b l h fun w h => asInt v fun i => asInt w fun j => small i (small j (k (.range i j (.ofNat (nat_lit 1))) h) false) false
-- a step: 1 .. 1000, or -1
noncomputable def stepOk (m : Int) : Bool := @Int.rec (fun _ => Bool) (fun n => bcase (Nat.ble (nat_lit 1) n) (Nat.ble n (nat_lit 1000)) false) (fun n => Nat.beq n (nat_lit 0)) m
noncomputable def xrange3 (a b c : XE) : XE := fun l h k => a l h fun v h => b l h fun w h => c l h fun x h => asInt v fun i => asInt w fun j => asInt x fun m => small i (small j (bcase (stepOk m) (k (.range i j m) h) false) false) false
noncomputable def xappend (o e : XE) : XE := fun l h k => o l h fun v h => asList v h fun _ _ => e l h fun w h => asList v h fun n xs => bcase (Nat.ble (lenV xs) (nat_lit 1000000)) (snocK w xs fun ys => store (.list ys) n h fun h => k .none h) false
noncomputable def repK (v : V) (n : Nat) : List V → (List V → Bool) → Bool := @Nat.rec (fun _ => List V → (List V → Bool) → Bool) (fun xs k => k xs) (fun _ ih xs k => ih (v :: xs) k) n
noncomputable def isZero (v : V) : Bool :=
  @V.rec (fun _ => Bool) (fun _ => Bool) false false (fun _ => false) (fun i => ieq i (.ofNat (nat_lit 0))) (fun _ => false) (fun _ _ => false) (fun _ _ _ => false) false (fun _ _ _ _ => false) v
noncomputable def xrep (a b : XE) : XE := fun l h k => a l h fun v h => b l h fun w h => asInt w fun j => nat2 j j fun j _ => bcase (Nat.ble j (nat_lit 1000000)) (bcase (isZero v) (allocS (.pk (nat_lit 0) j) h k) (repK v j [] fun xs => alloc (.list xs) h k)) false
noncomputable def xcat (a b : XE) : XE := fun l h k => a l h fun v h => b l h fun w h => asList v h fun _ xs => asList w h fun _ ys => alloc (.list (xs ++ ys)) h k
noncomputable def xtake (a : XE) (n : Nat) : XE := fun l h k => a l h fun v h => asList v h fun _ xs => alloc (.list (xs.take n)) h k
noncomputable def xisNil (a : XE) : XE := fun l h k => a l h fun v h => asList v h fun _ xs => @List.rec V (fun _ => Bool) (k (.bool true) h) (fun _ _ _ => k (.bool false) h) xs

-- statements: next, return, break, continue
noncomputable def sseq (a b : XS) : XS := fun l h kn kr kb kc => a l h (fun l h => b l h kn kr kb kc) kr kb kc
noncomputable def spass : XS := fun l h kn _ _ _ => kn l h
noncomputable def sbreak : XS := fun l h _ _ kb _ => kb l h
noncomputable def scont : XS := fun l h _ _ _ kc => kc l h
noncomputable def sret (e : XE) : XS := fun l h _ kr _ _ => e l h fun v h => kr v h
noncomputable def sexpr (e : XE) : XS := fun l h kn _ _ _ => e l h fun _ h => kn l h
noncomputable def sset (i : Nat) (e : XE) : XS := fun l h kn _ _ _ => e l h fun v h => setK v l i fun l => kn l h
noncomputable def saug (i : Nat) (o : Op) (e : XE) : XS := fun l h kn _ _ _ => known (getV l i) fun v => e l h fun w h => asInt v fun a => asInt w fun b => o a b fun r => setK (.int r) l i fun l => kn l h
noncomputable def sets (is : List Nat) : List V → Loc → (Loc → Bool) → Bool :=
  @List.rec Nat (fun _ => List V → Loc → (Loc → Bool) → Bool) (fun vs l k => @List.rec V (fun _ => Bool) (k l) (fun _ _ _ => false) vs)
    (fun i _ ih vs l k => @List.rec V (fun _ => Bool) false (fun v r _ => setK v l i fun l => ih r l k) vs) is
noncomputable def sunpack (is : List Nat) (e : XE) : XS := fun l h kn _ _ _ => e l h fun v h => asTup v fun vs => sets is vs l fun l => kn l h
noncomputable def sattr (o : XE) (i : Nat) (e : XE) : XS := fun l h kn _ _ _ => e l h fun v h => o l h fun w h => asRef w fun n => objCase (getT h n) (fun _ => false) (fun _ _ => false) (fun fs => setK v fs i fun fs => store (.inst fs) n h fun h => kn l h)
noncomputable def dsetK (v : V) (kvs : List (V × V)) : Nat → (List (V × V) → Bool) → Bool :=
  @List.rec (V × V) (fun _ => Nat → (List (V × V) → Bool) → Bool) (fun _ k => k []) (fun p r ih i k => @Nat.rec (fun _ => Bool) (@Prod.rec V V (fun _ => Bool) (fun q _ => k ((q, v) :: r)) p) (fun j _ => ih j fun ys => k (p :: ys)) i) kvs
noncomputable def dsnocK (p : V × V) (kvs : List (V × V)) : (List (V × V) → Bool) → Bool :=
  @List.rec (V × V) (fun _ => (List (V × V) → Bool) → Bool) (fun k => k [p]) (fun x _ ih k => ih fun ys => k (x :: ys)) kvs
noncomputable def lenD (kvs : List (V × V)) : Nat := @List.rec (V × V) (fun _ => Nat → Nat) (fun n => n) (fun _ _ ih n => ih (Nat.succ n)) kvs (nat_lit 0)
noncomputable def ltLen (xs : List V) : Nat → Bool := @List.rec V (fun _ => Nat → Bool) (fun _ => false) (fun _ _ ih i => @Nat.rec (fun _ => Bool) true (fun j _ => ih j) i) xs
noncomputable def ssub (o i e : XE) : XS := fun l h kn _ _ _ => e l h fun v h => o l h fun w h => i l h fun x h => asRef w fun n =>
  soCase (getS h n) (fun o => objCase o (fun xs => asNat x fun j => bcase (Nat.ble j (nat_lit 1000000)) (bcase (ltLen xs j) (setK v xs j fun xs => store (.list xs) n h fun h => kn l h) false) false)
    (fun ep kvs => asKey x fun q => dfind q kvs (bcase (Nat.ble (lenD kvs) (nat_lit 1000000)) (dsnocK (x, v) kvs fun kvs => store (.dict (Nat.succ ep) kvs) n h fun h => kn l h) false) (nat_lit 0) fun j _ => dsetK v kvs j fun kvs => store (.dict ep kvs) n h fun h => kn l h)
    (fun _ => false))
    (fun p len => asNat x fun j => bcase (Nat.ble j (nat_lit 1000000)) (bcase (Nat.ble (Nat.succ j) len) (small16 v fun m => forceN (setP p (Nat.pow (nat_lit 65536) j) m) fun p => storeS (.pk p len) n h fun h => kn l h) false) false)
noncomputable def saugsub (o i : XE) (op : Op) (e : XE) : XS := fun l h kn _ _ _ => o l h fun w h => i l h fun x h => asList w h fun n xs => asNat x fun j => bcase (Nat.ble j (nat_lit 1000000)) (known (getV xs j) fun old => e l h fun v h => asList w h fun _ xs => asInt old fun a => asInt v fun b => op a b fun r =>
  bcase (ltLen xs j) (setK (.int r) xs j fun xs => store (.list xs) n h fun h => kn l h) false) false
noncomputable def sif (c : XE) (a b : XS) : XS := fun l h kn kr kb kc => c l h fun v h => truthy v fun t => bcase t (a l h kn kr kb kc) (b l h kn kr kb kc)
noncomputable def swhile (c : XE) (a : XS) (f : Nat) : XS :=
  @Nat.rec (fun _ => XS) (fun _ _ _ _ _ _ => false) (fun _ ih l h kn kr _ _ => c l h fun v h => truthy v fun t => bcase t (a l h (fun l h => ih l h kn kr kn kn) kr kn (fun l h => ih l h kn kr kn kn)) (kn l h)) f

abbrev Tgt := V → Loc → (Loc → Bool) → Bool
noncomputable def tvar (i : Nat) : Tgt := fun v l k => setK v l i k
noncomputable def ttup (is : List Nat) : Tgt := fun v l k => asTup v fun vs => sets is vs l k
noncomputable def forTup (t : Tgt) (a : XS) (kn : KN) (kr : KR) (vs : List V) : KN :=
  @List.rec V (fun _ => KN) kn (fun v _ ih l h => t v l fun l => a l h ih kr kn ih) vs
noncomputable def forRange (t : Tgt) (a : XS) (kn : KN) (kr : KR) (st : Int) (f : Nat) : Int → KN :=
  @Nat.rec (fun _ => Int → KN) (fun _ => kn) (fun _ ih i l h => t (.int i) l fun l => a l h (ih (iadd i st)) kr kn (ih (iadd i st))) f
noncomputable def forList (t : Tgt) (a : XS) (kn : KN) (kr : KR) (n : Nat) (f : Nat) : Nat → KN :=
  @Nat.rec (fun _ => Nat → KN) (fun _ _ _ => false) (fun _ ih i l h => objCase (getT h n) (fun xs => @List.rec V (fun _ => Bool) (kn l h) (fun v _ _ => t v l fun l => a l h (ih (Nat.succ i)) kr kn (ih (Nat.succ i))) (dropV xs i)) (fun _ _ => false) (fun _ => false)) f
noncomputable def keyAt (kvs : List (V × V)) (no : Bool) : Nat → (V → Bool) → Bool :=
  @List.rec (V × V) (fun _ => Nat → (V → Bool) → Bool) (fun _ _ => no) (fun p _ ih i k => @Nat.rec (fun _ => Bool) (@Prod.rec V V (fun _ => Bool) (fun q _ => k q) p) (fun j _ => ih j k) i) kvs
noncomputable def forDict (t : Tgt) (a : XS) (kn : KN) (kr : KR) (n ep : Nat) (f : Nat) : Nat → KN :=
  @Nat.rec (fun _ => Nat → KN) (fun _ _ _ => false) (fun f' ih i l h => objCase (getT h n) (fun _ => false) (fun ep' kvs => bcase (Nat.beq ep ep') (bcase (Nat.beq (lenD kvs) (Nat.add f' i)) (keyAt kvs (kn l h) i fun v => t v l fun l => a l h (ih (Nat.succ i)) kr kn (ih (Nat.succ i))) false) false) (fun _ => false)) f
noncomputable def rcount (a b c : Int) : Nat := @Int.rec (fun _ => Nat)
  (fun _ => Int.toNat (Int.fdiv (iadd (iadd (iadd b (ineg a)) c) (.negSucc (nat_lit 0))) c))
  (fun _ => Int.toNat (Int.fdiv (iadd (iadd (iadd a (ineg b)) (ineg c)) (.negSucc (nat_lit 0))) (ineg c))) c
noncomputable def sfor (t : Tgt) (it : XE) (a : XS) : XS := fun l h kn kr _ _ => it l h fun v h =>
  @V.rec (fun _ => Bool) (fun _ => Bool) false false (fun _ => false) (fun _ => false)
    (fun n => objCase (getT h n) (fun xs => forList t a kn kr n (Nat.succ (lenV xs)) (nat_lit 0) l h) (fun ep kvs => forDict t a kn kr n ep (Nat.succ (lenD kvs)) (nat_lit 0) l h) (fun _ => false))
    (fun vs _ => forTup t a kn kr vs l h) (fun x y z => forRange t a kn kr z (rcount x y z) x l h) false (fun _ _ _ _ => false) v

noncomputable def fn (n : Nat) (unbs : List V) (body : XS) : Fn := fun as h k => bcase (Nat.beq (lenV as) n) (body (as ++ unbs) h (fun _ h => k .none h) k (fun _ _ => false) (fun _ _ => false)) false
noncomputable def asNone (v : V) (k : Bool) : Bool :=
  @V.rec (fun _ => Bool) (fun _ => Bool) false k (fun _ => false) (fun _ => false) (fun _ => false) (fun _ _ => false) (fun _ _ _ => false) false (fun _ _ _ _ => false) v
noncomputable def newInst (init : Fn) (fs : List V) : Fn := fun as h k => alloc (.inst fs) h fun v h => init (v :: as) h fun r h => asNone r (k v h)
end
end Kp
end
-- part KpRel
section
set_option autoImplicit false
namespace Kp
open PySem PySem.W PyProof.Rows PySem.Calls

abbrev Phi := List (Addr × Addr)

mutual
noncomputable def VR (φ : Phi) (h : Heap) : V → Value → Prop
  | .unb, _ => False
  | .none, u => u = .none
  | .bool b, u => u = .bool b
  | .int i, u => ∃ t, u = .int i t
  | .ref n, u => ∃ a d, φ[n]? = some (a, d) ∧ u = .ref a
  | .tup xs, u => ∃ a us, u = .ref a ∧ IsTup h a (List.toArray us) ∧ VsR φ h xs us
  | .range a b c, u => ∃ r t x y, u = .ref r ∧ IsRange h r a b c t x y ∧ Builtin.Range.small a b c = true ∧ (0 < c ∨ c = -1)
noncomputable def VsR (φ : Phi) (h : Heap) : List V → List Value → Prop
  | [], us => us = []
  | x :: xs, us => ∃ u r, us = u :: r ∧ VR φ h x u ∧ VsR φ h xs r
end

-- what is never turned: tuples, records, records
noncomputable def Im (o : Obj) : Prop := (o.cls = .type "tuple" ∧ ∃ xs n, o.data = .seq xs n) ∨ (o.cls = .type "range" ∧ ∃ vs, o.data = .fields vs) ∨ o.data = .plain
noncomputable def St (h h' : Heap) : Prop := ∀ b o, h.get? b = some o → Im o → h'.get? b = some o
theorem St.refl (h : Heap) : St h h := fun _ _ e _ => e
theorem St.trans {a b c : Heap} (x : St a b) (y : St b c) : St a c := fun q o e i => y q o (x q o e i) i

theorem pre_get {φ φ' : Phi} (p : φ <+: φ') {n : Nat} {x : Addr × Addr} (e : φ[n]? = some x) : φ'[n]? = some x := by
  obtain ⟨z, rfl⟩ := p
  rw [List.getElem?_append_left (List.getElem?_eq_some_iff.mp e).1]
  exact e

mutual
theorem VR.st {φ φ' : Phi} {h h' : Heap} (p : φ <+: φ') (k : St h h') : ∀ {v : V} {u : Value}, VR φ h v u → VR φ' h' v u
  | .unb, _, r => r
  | .none, _, r => r
  | .bool _, _, r => r
  | .int _, _, r => r
  | .ref _, _, ⟨a, d, e, q⟩ => ⟨a, d, pre_get p e, q⟩
  | .tup _, _, ⟨a, us, q, ⟨o, ho, hc, n, hd⟩, r⟩ => ⟨a, us, q, ⟨o, k _ _ ho (.inl ⟨hc, _, n, hd⟩), hc, n, hd⟩, VsR.st p k r⟩
  | .range _ _ _, _, ⟨r, t, x, y, q, z, sm⟩ => ⟨r, t, x, y, q, k _ _ z (.inr (.inl ⟨rfl, _, rfl⟩)), sm⟩
theorem VsR.st {φ φ' : Phi} {h h' : Heap} (p : φ <+: φ') (k : St h h') : ∀ {vs : List V} {us : List Value}, VsR φ h vs us → VsR φ' h' vs us
  | [], _, r => r
  | _ :: _, _, ⟨u, r, e, x, y⟩ => ⟨u, r, e, VR.st p k x, VsR.st p k y⟩
end

section
variable {φ : Phi} {h : Heap}
theorem VR.int {i : Int} {u : Value} (r : VR φ h (.int i) u) : ∃ t, u = .int i t := r
theorem VR.bool {b : Bool} {u : Value} (r : VR φ h (.bool b) u) : u = .bool b := r
theorem VR.mkInt (i : Int) (t : Tok) : VR φ h (.int i) (.int i t) := ⟨t, rfl⟩
theorem VR.mkBool (b : Bool) : VR φ h (.bool b) (.bool b) := rfl
theorem VsR.nil : VsR φ h [] [] := rfl
theorem VsR.cons {x : V} {xs : List V} {u : Value} {us : List Value} (a : VR φ h x u) (b : VsR φ h xs us) : VsR φ h (x :: xs) (u :: us) := ⟨u, us, rfl, a, b⟩
theorem VsR.length : ∀ {vs : List V} {us : List Value}, VsR φ h vs us → us.length = vs.length
  | [], _, r => by rw [show _ = [] from r]; rfl
  | _ :: _, _, ⟨u, r, e, _, y⟩ => by rw [e, List.length_cons, List.length_cons, VsR.length y]
theorem VsR.get : ∀ {vs : List V} {us : List Value}, VsR φ h vs us → ∀ {i : Nat} {v : V}, vs[i]? = some v → ∃ u, us[i]? = some u ∧ VR φ h v u
  | [], _, _, i, v, e => by simp at e
  | x :: xs, _, ⟨u, r, e, a, y⟩, 0, v, q => by
    subst e
    obtain rfl : x = v := by simpa using q
    exact ⟨u, rfl, a⟩
  | x :: xs, _, ⟨u, r, e, a, y⟩, i + 1, v, q => by
    subst e
    exact VsR.get y (by simpa using q)
theorem VsR.append : ∀ {vs ws : List V} {us zs : List Value}, VsR φ h vs us → VsR φ h ws zs → VsR φ h (vs ++ ws) (us ++ zs)
  | [], _, _, _, r, s => by rw [show _ = [] from r]; exact s
  | _ :: _, _, _, _, ⟨u, r, e, x, y⟩, s => ⟨u, r ++ _, by rw [e]; rfl, x, VsR.append y s⟩
theorem VsR.set : ∀ {vs : List V} {us : List Value}, VsR φ h vs us → ∀ {i : Nat} {v : V} {u : Value}, VR φ h v u → VsR φ h (setV v vs i) (us.set i u)
  | [], _, r, i, v, u, _ => by rw [show _ = [] from r]; exact rfl
  | x :: xs, _, ⟨u, r, e, a, y⟩, 0, v, w, z => by subst e; exact ⟨w, r, rfl, z, y⟩
  | x :: xs, _, ⟨u, r, e, a, y⟩, i + 1, v, w, z => by subst e; exact ⟨u, _, rfl, a, VsR.set y z⟩
theorem VsR.take : ∀ {vs : List V} {us : List Value}, VsR φ h vs us → ∀ (n : Nat), VsR φ h (vs.take n) (us.take n)
  | _, _, _, 0 => rfl
  | [], _, r, n + 1 => by rw [show _ = [] from r]; exact rfl
  | x :: xs, _, ⟨u, r, e, a, y⟩, n + 1 => by subst e; exact ⟨u, _, rfl, a, VsR.take y n⟩
theorem VsR.rep {v : V} {u : Value} (a : VR φ h v u) : ∀ n : Nat, VsR φ h (List.replicate n v) (List.replicate n u)
  | 0 => rfl
  | n + 1 => ⟨u, _, rfl, a, VsR.rep a n⟩
end

theorem getV_eq : ∀ (xs : List V) (i : Nat), getV xs i = (xs[i]?).getD .unb
  | [], i => rfl
  | x :: xs, 0 => rfl
  | x :: xs, i + 1 => by
    have : getV (x :: xs) (i + 1) = getV xs i := rfl
    rw [this, getV_eq xs i]; simp
theorem getV_some {xs : List V} {i : Nat} (h : getV xs i ≠ .unb) : xs[i]? = some (getV xs i) := by
  rw [getV_eq] at h ⊢
  cases e : xs[i]? with
  | none => rw [e] at h; exact absurd rfl h
  | some v => rfl
theorem getV_set (v : V) : ∀ (xs : List V) (i j : Nat), i < xs.length → getV (setV v xs i) j = if i = j then v else getV xs j
  | [], i, _, h => by simp at h
  | x :: xs, 0, 0, _ => rfl
  | x :: xs, 0, j + 1, _ => by simp; rfl
  | x :: xs, i + 1, 0, _ => by simp; rfl
  | x :: xs, i + 1, j + 1, h => by
    have : getV (setV v (x :: xs) (i + 1)) (j + 1) = getV (setV v xs i) j := rfl
    rw [this, getV_set v xs i j (by simpa using h)]
    have e : getV (x :: xs) (j + 1) = getV xs j := rfl
    rw [e]
    simp
theorem setV_len (v : V) : ∀ (xs : List V) (i : Nat), (setV v xs i).length = xs.length
  | [], _ => rfl
  | _ :: _, 0 => rfl
  | x :: xs, i + 1 => by
    have : setV v (x :: xs) (i + 1) = x :: setV v xs i := rfl
    rw [this, List.length_cons, setV_len v xs i, List.length_cons]
theorem setK_eq (v : V) : ∀ (xs : List V) (i : Nat) (k : List V → Bool), setK v xs i k = k (setV v xs i)
  | [], _, _ => rfl
  | _ :: _, 0, _ => rfl
  | x :: xs, i + 1, k => by
    have : setK v (x :: xs) (i + 1) k = setK v xs i fun ys => k (x :: ys) := rfl
    rw [this, setK_eq v xs i]; rfl
theorem snocK_eq (v : V) : ∀ (xs : List V) (k : List V → Bool), snocK v xs k = k (xs ++ [v])
  | [], _ => rfl
  | x :: xs, k => by
    have : snocK v (x :: xs) k = snocK v xs fun ys => k (x :: ys) := rfl
    rw [this, snocK_eq v xs]; rfl
theorem lenV_aux : ∀ (xs : List V) (n : Nat), @List.rec V (fun _ => Nat → Nat) (fun n => n) (fun _ _ ih n => ih (Nat.succ n)) xs n = n + xs.length
  | [], n => rfl
  | x :: xs, n => by
    show @List.rec V (fun _ => Nat → Nat) (fun n => n) (fun _ _ ih n => ih (Nat.succ n)) xs (Nat.succ n) = _
    rw [lenV_aux xs (Nat.succ n), List.length_cons]; (first | lia | omega)
theorem lenV_eq (xs : List V) : lenV xs = xs.length := by
  have := lenV_aux xs 0
  unfold lenV
  rw [this]; (first | lia | omega)
theorem ltLen_eq : ∀ (xs : List V) (i : Nat), ltLen xs i = decide (i < xs.length)
  | [], i => by show false = _; simp
  | x :: xs, 0 => by show true = _; simp
  | x :: xs, i + 1 => by
    have : ltLen (x :: xs) (i + 1) = ltLen xs i := rfl
    rw [this, ltLen_eq xs i, List.length_cons]; simp
theorem dropV_eq : ∀ (xs : List V) (i : Nat), dropV xs i = xs.drop i
  | [], i => by simp; rfl
  | x :: xs, 0 => rfl
  | x :: xs, i + 1 => by
    have : dropV (x :: xs) (i + 1) = dropV xs i := rfl
    rw [this, dropV_eq xs i]; rfl
theorem repK_eq (v : V) : ∀ (n : Nat) (xs : List V) (k : List V → Bool), repK v n xs k = k (List.replicate n v ++ xs)
  | 0, _, _ => rfl
  | n + 1, xs, k => by
    have : repK v (n + 1) xs k = repK v n (v :: xs) k := rfl
    rw [this, repK_eq v n, List.replicate_succ']; simp

-- the trie
theorem tget_nil (i : Nat) : Tr.getS .nil i = .ob .no := rfl
theorem tget_node (v : SO) (l r : Tr) : ∀ i, Tr.getS (.node v l r) i = match i with
    | 0 => v
    | j + 1 => if j % 2 = 0 then l.getS (j / 2) else r.getS (j / 2)
  | 0 => rfl
  | j + 1 => by
    show @Nat.rec (fun _ => SO) (l.getS (Nat.div j 2)) (fun _ _ => r.getS (Nat.div j 2)) (Nat.mod j 2) = _
    have e1 : Nat.div j 2 = j / 2 := rfl
    have e2 : Nat.mod j 2 = j % 2 := rfl
    rw [e1, e2]
    dsimp only
    cases q : j % 2 with
    | zero => exact (if_pos rfl).symm
    | succ n => exact (if_neg (Nat.succ_ne_zero n)).symm
theorem tputNil_succ (o : SO) (f : Nat) : ∀ i, Tr.putNil o (f + 1) i = match i with
    | 0 => .node o .nil .nil
    | j + 1 => if j % 2 = 0 then .node (.ob .no) (Tr.putNil o f (j / 2)) .nil else .node (.ob .no) .nil (Tr.putNil o f (j / 2))
  | 0 => rfl
  | j + 1 => by
    show @Nat.rec (fun _ => Tr) (.node (.ob .no) (Tr.putNil o f (Nat.div j 2)) .nil) (fun _ _ => .node (.ob .no) .nil (Tr.putNil o f (Nat.div j 2))) (Nat.mod j 2) = _
    have e1 : Nat.div j 2 = j / 2 := rfl
    have e2 : Nat.mod j 2 = j % 2 := rfl
    rw [e1, e2]
    dsimp only
    cases q : j % 2 with
    | zero => exact (if_pos rfl).symm
    | succ n => exact (if_neg (Nat.succ_ne_zero n)).symm
theorem half_inj {i j : Nat} (h : i % 2 = j % 2) (e : i / 2 = j / 2) : i = j := by
  rw [← Nat.div_add_mod i 2, ← Nat.div_add_mod j 2, h, e]
theorem half_ite {α : Type} (a b : α) {i j : Nat} (h : i % 2 = j % 2) : (if i / 2 = j / 2 then a else b) = if i + 1 = j + 1 then a else b := by
  by_cases e : i = j
  · rw [if_pos (congrArg (· / 2) e), if_pos (congrArg (· + 1) e)]
  · rw [if_neg (fun q => e (half_inj h q)), if_neg (fun q => e (Nat.succ.inj q))]
theorem odd_ite {α : Type} (a b : α) {i j : Nat} (h : i % 2 ≠ j % 2) : b = if i + 1 = j + 1 then a else b :=
  (if_neg (fun q => h (congrArg (· % 2) (Nat.succ.inj q)))).symm
theorem half_odd {i j : Nat} (p : ¬ i % 2 = 0) (q : ¬ j % 2 = 0) : i % 2 = j % 2 :=
  (Nat.mod_two_ne_zero.mp p).trans (Nat.mod_two_ne_zero.mp q).symm
theorem half_lt {i f : Nat} (h : i + 1 < f + 1) : i / 2 < f := Nat.lt_of_le_of_lt (Nat.div_le_self i 2) (Nat.lt_of_succ_lt_succ h)
theorem tget_putNil (o : SO) : ∀ (f i j : Nat), i < f → Tr.getS (Tr.putNil o f i) j = if i = j then o else .ob .no
  | 0, _, _, h => absurd h (Nat.not_lt_zero _)
  | f + 1, i, j, h => by
    rw [tputNil_succ]
    cases i with
    | zero =>
      dsimp only
      rw [tget_node]
      cases j with
      | zero => rfl
      | succ j => dsimp only; rw [tget_nil, ite_self]; rfl
    | succ i =>
      dsimp only
      by_cases p : i % 2 = 0
      · rw [if_pos p, tget_node]
        cases j with
        | zero => rfl
        | succ j =>
          dsimp only
          by_cases q : j % 2 = 0
          · rw [if_pos q, tget_putNil o f _ _ (half_lt h)]
            exact half_ite _ _ (p.trans q.symm)
          · rw [if_neg q, tget_nil]
            exact odd_ite _ _ (fun e => q (e.symm.trans p))
      · rw [if_neg p, tget_node]
        cases j with
        | zero => rfl
        | succ j =>
          dsimp only
          by_cases q : j % 2 = 0
          · rw [if_pos q, tget_nil]
            exact odd_ite _ _ (fun e => p (e.trans q))
          · rw [if_neg q, tget_putNil o f _ _ (half_lt h)]
            exact half_ite _ _ (half_odd p q)
theorem tput_nil (o : SO) (i : Nat) : Tr.putS o .nil i = Tr.putNil o (i + 1) i := rfl
theorem tput_node (o v : SO) (l r : Tr) : ∀ i, Tr.putS o (.node v l r) i = match i with
    | 0 => .node o l r
    | j + 1 => if j % 2 = 0 then .node v (l.putS o (j / 2)) r else .node v l (r.putS o (j / 2))
  | 0 => rfl
  | j + 1 => by
    show @Nat.rec (fun _ => Tr) (.node v (l.putS o (Nat.div j 2)) r) (fun _ _ => .node v l (r.putS o (Nat.div j 2))) (Nat.mod j 2) = _
    have e1 : Nat.div j 2 = j / 2 := rfl
    have e2 : Nat.mod j 2 = j % 2 := rfl
    rw [e1, e2]
    dsimp only
    cases q : j % 2 with
    | zero => exact (if_pos rfl).symm
    | succ n => exact (if_neg (Nat.succ_ne_zero n)).symm
theorem tget_putS (o : SO) : ∀ (t : Tr) (i j : Nat), (t.putS o i).getS j = if i = j then o else t.getS j
  | .nil, i, j => by
    rw [tput_nil, tget_putNil o _ _ _ (Nat.lt_succ_self i), tget_nil]
  | .node v l r, i, j => by
    rw [tput_node]
    cases i with
    | zero =>
      dsimp only
      rw [tget_node, tget_node]
      cases j with
      | zero => rfl
      | succ j => rfl
    | succ i =>
      dsimp only
      by_cases p : i % 2 = 0
      · rw [if_pos p, tget_node, tget_node]
        cases j with
        | zero => rfl
        | succ j =>
          dsimp only
          by_cases q : j % 2 = 0
          · rw [if_pos q, if_pos q, tget_putS o l]
            exact half_ite _ _ (p.trans q.symm)
          · rw [if_neg q, if_neg q]
            exact odd_ite _ _ (fun e => q (e.symm.trans p))
      · rw [if_neg p, tget_node, tget_node]
        cases j with
        | zero => rfl
        | succ j =>
          dsimp only
          by_cases q : j % 2 = 0
          · rw [if_pos q, if_pos q]
            exact odd_ite _ _ (fun e => p (e.trans q))
          · rw [if_neg q, if_neg q, tget_putS o r]
            exact half_ite _ _ (half_odd p q)

theorem tget_put (o : AO) (t : Tr) (i j : Nat) : (t.put o i).get j = if i = j then o else t.get j := by
  show SO.view ((t.putS (.ob o) i).getS j) = _
  rw [tget_putS]; split <;> rfl
theorem tget_same (o : SO) (t : Tr) (i j : Nat) : (t.putS o i).get j = (t.put o.view i).get j := by
  rw [tget_put]
  show SO.view ((t.putS o i).getS j) = _
  rw [tget_putS]; split <;> rfl
-- packed lists
theorem forceN_eq (n : Nat) (k : Nat → Bool) : forceN n k = k n := by cases n <;> rfl
theorem unpk_succ (len n : Nat) : unpk (len + 1) n = .int (.ofNat (n % 65536)) :: unpk len (n / 65536) := rfl
theorem unpk_len : ∀ (len n : Nat), (unpk len n).length = len
  | 0, _ => rfl
  | len + 1, n => by rw [unpk_succ, List.length_cons, unpk_len len]
theorem unpk_zero : ∀ len : Nat, unpk len 0 = List.replicate len (.int (.ofNat 0))
  | 0 => rfl
  | len + 1 => by rw [unpk_succ, List.replicate_succ, ← unpk_zero len]
theorem digP_eq (n p : Nat) : digP n p = n / p % 65536 := rfl
theorem setP_eq (n p m : Nat) : setP n p m = n - digP n p * p + m * p := rfl
theorem digP_succ (n j : Nat) : digP n (65536 ^ (j + 1)) = digP (n / 65536) (65536 ^ j) := by
  rw [digP_eq, digP_eq, Nat.pow_succ, Nat.mul_comm, Nat.div_div_eq_div_mul]
theorem unpk_get : ∀ (len n j : Nat), j < len → (unpk len n)[j]? = some (.int (.ofNat (digP n (65536 ^ j))))
  | 0, _, _, h => by (first | lia | omega)
  | len + 1, n, 0, _ => by rw [unpk_succ, digP_eq]; simp
  | len + 1, n, j + 1, h => by rw [unpk_succ, List.getElem?_cons_succ, unpk_get len _ j (by (first | lia | omega)), digP_succ]
theorem set_mod {n k m : Nat} (h : m < k) : (n - n % k + m) % k = m := by
  rw [show n - n % k = k * (n / k) from Nat.sub_eq_of_eq_add (Nat.div_add_mod n k).symm, Nat.mul_add_mod, Nat.mod_eq_of_lt h]
theorem set_div {n k m : Nat} (h : m < k) : (n - n % k + m) / k = n / k := by
  rw [show n - n % k = k * (n / k) from Nat.sub_eq_of_eq_add (Nat.div_add_mod n k).symm, Nat.mul_add_div (Nat.lt_of_le_of_lt (Nat.zero_le m) h), Nat.div_eq_of_lt h, Nat.add_zero]
theorem set_mod' {n a b k : Nat} (h : a * k ≤ n) : (n - a * k + b * k) % k = n % k := by
  rw [Nat.add_mul_mod_self_right, Nat.mul_comm a k, Nat.sub_mul_mod (Nat.mul_comm a k ▸ h)]
theorem set_div' {n a b k : Nat} (hk : 0 < k) : (n - a * k + b * k) / k = n / k - a + b := by
  rw [Nat.add_mul_div_right _ _ hk, Nat.mul_comm a k, Nat.sub_mul_div]
theorem unpk_set : ∀ (len n j m : Nat), j < len → m < 65536 → unpk len (setP n (65536 ^ j) m) = setV (.int (.ofNat m)) (unpk len n) j
  | 0, _, _, _, h, _ => absurd h (Nat.not_lt_zero _)
  | len + 1, n, 0, m, _, hm => by
    rw [unpk_succ, unpk_succ, setP_eq, digP_eq, Nat.pow_zero, Nat.div_one, Nat.mul_one, Nat.mul_one, set_mod hm, set_div hm]; rfl
  | len + 1, n, j + 1, m, h, hm => by
    rw [unpk_succ, unpk_succ]
    have hA : digP (n / 65536) (65536 ^ j) * 65536 ^ j ≤ n / 65536 := by
      rw [digP_eq]
      exact Nat.le_trans (Nat.mul_le_mul_right _ (Nat.mod_le _ _)) (Nat.div_mul_le_self _ _)
    have e0 : setP n (65536 ^ (j + 1)) m = n - digP (n / 65536) (65536 ^ j) * 65536 ^ j * 65536 + m * 65536 ^ j * 65536 := by
      rw [setP_eq, digP_succ, Nat.pow_succ, Nat.mul_assoc, Nat.mul_assoc]
    rw [e0, set_mod' ((Nat.le_div_iff_mul_le (Nat.succ_pos _)).mp hA), set_div' (Nat.succ_pos _), ← setP_eq, unpk_set len _ j m (Nat.lt_of_succ_lt_succ h) hm]; rfl
theorem nthP_eq (n len : Nat) (i : Int) (k : V → Bool) : nthP n len i k = nth (unpk len n) i k := by
  cases i with
  | negSucc => rfl
  | ofNat j =>
    show bcase (Nat.ble j 1000000) (bcase (Nat.ble (j + 1) len) (k (.int (.ofNat (digP n (65536 ^ j))))) false) false = bcase (Nat.ble j 1000000) (known (getV (unpk len n) j) k) false
    have : bcase (Nat.ble (j + 1) len) (k (.int (.ofNat (digP n (65536 ^ j))))) false = known (getV (unpk len n) j) k := by
      rw [getV_eq]
      by_cases q : j < len
      · rw [unpk_get len n j q, show Nat.ble (j + 1) len = true from Nat.ble_eq_true_of_le q]; rfl
      · rw [List.getElem?_eq_none (by rw [unpk_len]; (first | lia | omega)), show Nat.ble (j + 1) len = false from by
          cases z : Nat.ble (j + 1) len with
          | false => rfl
          | true => exact absurd (Nat.le_of_ble_eq_true z) q]
        rfl
    rw [this]
theorem sub_so (s : SO) (w : V) (k : V → Bool) (fd : Nat → List (V × V) → Bool) (fi : List V → Bool) :
    soCase s (fun o => objCase o (fun xs => asInt w fun j => nth xs j k) fd fi) (fun n len => asInt w fun j => nthP n len j k) = objCase s.view (fun xs => asInt w fun j => nth xs j k) fd fi := by
  cases s with
  | ob o => rfl
  | pk n len =>
    show asInt w (fun j => nthP n len j k) = asInt w (fun j => nth (unpk len n) j k)
    congr 1
    funext j
    exact nthP_eq n len j k
end Kp
end
-- part KpState
section
set_option autoImplicit false
namespace Kp
open PySem PySem.W PyProof.Rows PySem.Calls

noncomputable def fieldNames : List Str := ["files", "ranks", "size", "full", "has_double", "has_castling", "file_masks", "rank_masks", "rays", "king", "knight", "pawn", "castles", "rights_lost"]

structure Base where
  prog : Program
  w : World
  h₀ : Heap
  C : Addr
  fI : Addr
  mg : Str → Option Value
  mb : Str → Option Value
  K : Frag
  X : K.In h₀
  lim : h₀.NoLimit
  g : h₀.Ns mainGlobals mg
  b : h₀.Ns builtinsNs mb
  nob : ∀ x : Str, x = "len" ∨ x = "abs" ∨ x = "min" ∨ x = "range" → mg x = none ∧ mb x = bootBuiltins x
  cset : findIn K (.ref C) "__setattr__" = some (some (.builtin "object.__setattr__"))
  cover : plainOver K C = true
  cdict : hasDictIn K C = true
  ctake : ∀ nm ∈ fieldNames, takerIn K C nm = some none
  cget : ∀ nm ∈ fieldNames, plainGet K C nm = true
  cfind : ∀ nm ∈ fieldNames, ∃ attr, findIn K (.ref C) nm = some attr ∧ noGet K attr = true
  cmake : makesIn K C = true
  cinit : findIn K (.ref C) "__init__" = some (some (.ref fI))
  cfn : isFn K (.ref fI) = true
  -- what a stretch of the run leaves as it stands, and the count of tracked objects that it may not turn
  fz : Addr → Obj → Prop
  ro : Nat

abbrev Base.knd (G : Base) : HeapKind G.prog G.w (List Int) := tupleKind (intKind G.prog G.w)
abbrev Base.M (G : Base) : Model := model G.prog G.w

noncomputable def cnt : List V → Nat
  | [] => 0
  | .unb :: r => cnt r
  | _ :: r => cnt r + 1

structure FieldsR (φ : Phi) (h : Heap) (fs : List V) (es : List DictEntry) : Prop where
  get : ∀ i nm, fieldNames[i]? = some nm → getV fs i ≠ .unb → ∃ u, getL nm es = some (some u) ∧ VR φ h (getV fs i) u
  keys : ∀ e ∈ es, ∃ x t, e.key = .str x t
  few : es.length ≤ cnt fs
  size : fs.length = 14

noncomputable def DR (G : Base) (φ : Phi) (h : Heap) : List (V × V) → List (List Int × Addr × Value) → Prop
  | [], xs => xs = []
  | p :: r, xs => ∃ q y s, xs = (q, y) :: s ∧ p.1 = .tup (q.map V.int) ∧ IsTupleKey (intKind G.prog G.w) h q y.1 ∧ VR φ h p.2 y.2 ∧ DR G φ h r s

noncomputable def OR (G : Base) (φ : Phi) (h : Heap) : AO → Addr → Addr → Prop
  | .no, _, _ => False
  | .list xs, a, d => a = d ∧ ∃ us, PlainL h d (List.toArray us) ∧ VsR φ h xs us
  | .dict ep kvs, a, d => a = d ∧ ∃ xs, h.get? d = some { cls := .type "dict", data := .dict (List.toArray (xs.map (entryOfKey G.knd))) ep } ∧ (xs.map (·.1)).Nodup ∧ DR G φ h kvs xs
  | .inst fs, a, d => h.get? a = some (instObj G.C d) ∧ ∃ es n, h.get? d = some (dictOf es n) ∧ FieldsR φ h fs es

structure HR (G : Base) (φ : Phi) (η : H) (h : Heap) : Prop where
  keep : ∀ b o, G.h₀.get? b = some o → h.get? b = some o
  len : φ.length = η.n
  obj : ∀ i a d, φ[i]? = some (a, d) → OR G φ h (η.t.get i) a d
  above : ∀ p ∈ φ, G.h₀.get? p.2 = none ∧ sysModules < p.2
  nd : (φ.map (·.2)).Nodup
  frz : ∀ b o, G.fz b o → h.get? b = some o
  aboveF : ∀ i p, φ[i]? = some p → G.ro ≤ i → ∀ o, ¬ G.fz p.2 o
  ror : η.r = G.ro

structure Step (φ φ' : Phi) (s s' : Shared) : Prop where
  pre : φ <+: φ'
  ev : ∀ b o, s.heap.get? b = some o → (∀ p ∈ φ, p.2 ≠ b) → s'.heap.get? b = some o
  fresh : ∀ p ∈ φ', p ∈ φ ∨ s.heap.get? p.2 = none
  gens : s'.gens = s.gens
  drawn : s'.drawn = s.drawn
  os : s'.os = s.os

structure StepL (L : Addr) (φ φ' : Phi) (s s' : Shared) : Prop where
  pre : φ <+: φ'
  ev : ∀ b o, s.heap.get? b = some o → (∀ p ∈ φ, p.2 ≠ b) → b ≠ L → s'.heap.get? b = some o
  fresh : ∀ p ∈ φ', p ∈ φ ∨ s.heap.get? p.2 = none
  gens : s'.gens = s.gens
  drawn : s'.drawn = s.drawn
  os : s'.os = s.os

theorem OR.alive {G : Base} {φ : Phi} {h : Heap} {o : AO} {a d : Addr} (r : OR G φ h o a d) : ∃ ob, h.get? d = some ob ∧ ¬ Im ob := by
  cases o with
  | no => exact r.elim
  | list xs =>
    obtain ⟨-, us, ⟨ob, n, ho, hc, _, hd⟩, -⟩ := r
    refine ⟨ob, ho, fun i => ?_⟩
    rcases i with ⟨i, -⟩ | ⟨-, _, i⟩ | i
    · rw [hc] at i; exact absurd i (by decide)
    · rw [hd] at i; cases i
    · rw [hd] at i; cases i
  | dict ep kvs =>
    obtain ⟨-, xs, ho, -⟩ := r
    refine ⟨_, ho, fun i => ?_⟩
    rcases i with ⟨i, -⟩ | ⟨-, _, i⟩ | i
    · exact absurd (show Value.type "dict" = Value.type "tuple" from i) (by decide)
    · cases i
    · cases i
  | inst fs =>
    obtain ⟨-, es, n, ho, -⟩ := r
    refine ⟨_, ho, fun i => ?_⟩
    rcases i with ⟨i, -⟩ | ⟨-, _, i⟩ | i
    · exact absurd (show Value.type "dict" = Value.type "tuple" from i) (by decide)
    · cases i
    · cases i

section
variable {G : Base} {φ φ' φ'' : Phi} {η η' η'' : H} {L : Addr}
theorem HR.alive {h : Heap} (r : HR G φ η h) {p : Addr × Addr} (hp : p ∈ φ) : ∃ ob, h.get? p.2 = some ob ∧ ¬ Im ob := by
  obtain ⟨i, hi⟩ := List.mem_iff_getElem?.mp hp
  exact (r.obj i p.1 p.2 hi).alive
theorem HR.notIm {h : Heap} (r : HR G φ η h) {b : Addr} {o : Obj} (e : h.get? b = some o) (i : Im o) : ∀ p ∈ φ, p.2 ≠ b := by
  intro p hp q
  obtain ⟨ob, ho, hn⟩ := r.alive hp
  rw [q, e] at ho
  cases ho
  exact hn i
theorem Step.refl (φ : Phi) (s : Shared) : Step φ φ s s := ⟨List.prefix_refl _, fun _ _ e _ => e, fun _ h => .inl h, rfl, rfl, rfl⟩
theorem Step.st {s s' : Shared} (x : Step φ φ' s s') (r : HR G φ η s.heap) : St s.heap s'.heap := fun b o e i => x.ev b o e (r.notIm e i)
theorem Step.trans {s s' s'' : Shared} (x : Step φ φ' s s') (y : Step φ' φ'' s' s'') (r : HR G φ η s.heap) (r' : HR G φ' η' s'.heap) : Step φ φ'' s s'' := by
  refine ⟨x.pre.trans y.pre, fun b o e n => ?_, fun p hp => ?_, y.gens.trans x.gens, y.drawn.trans x.drawn, y.os.trans x.os⟩
  · refine y.ev b o (x.ev b o e n) fun p hp q => ?_
    rcases x.fresh p hp with h | h
    · exact n p h q
    · rw [q, e] at h; cases h
  · rcases y.fresh p hp with h | h
    · exact x.fresh p h
    · cases e : s.heap.get? p.2 with
      | none => exact .inr rfl
      | some o =>
        by_cases n : ∀ q ∈ φ, q.2 ≠ p.2
        · rw [x.ev _ _ e n] at h; cases h
        · simp only [ne_eq, Classical.not_forall, Classical.not_not] at n
          obtain ⟨q, hq, he⟩ := n
          obtain ⟨ob, ho, -⟩ := r'.alive (x.pre.subset hq)
          rw [he, h] at ho; cases ho
theorem Step.l {s s' : Shared} (x : Step φ φ' s s') : StepL L φ φ' s s' := ⟨x.pre, fun b o e n _ => x.ev b o e n, x.fresh, x.gens, x.drawn, x.os⟩
theorem StepL.refl (φ : Phi) (s : Shared) : StepL L φ φ s s := (Step.refl φ s).l
-- a step that stores no tracked object and makes none
theorem Step.same {s s' : Shared} (k : ∀ b o, s.heap.get? b = some o → s'.heap.get? b = some o) (g : s'.gens = s.gens) (d : s'.drawn = s.drawn) (o : s'.os = s.os) : Step φ φ s s' :=
  ⟨List.prefix_refl _, fun b o e _ => k b o e, fun _ h => .inl h, g, d, o⟩
end

theorem DR.st {G : Base} {φ φ' : Phi} {h h' : Heap} (p : φ <+: φ') (k : St h h') : ∀ {kvs : List (V × V)} {xs : List (List Int × Addr × Value)}, DR G φ h kvs xs → DR G φ' h' kvs xs
  | [], _, r => r
  | _ :: _, _, ⟨q, y, s, e, a, ⟨o, it, n, ho, hc, hd, hi⟩, v, r⟩ => ⟨q, y, s, e, a, ⟨o, it, n, k _ _ ho (.inl ⟨hc, _, n, hd⟩), hc, hd, hi⟩, v.st p k, DR.st p k r⟩
theorem FieldsR.st {φ φ' : Phi} {h h' : Heap} (p : φ <+: φ') (k : St h h') {fs : List V} {es : List DictEntry} (r : FieldsR φ h fs es) : FieldsR φ' h' fs es :=
  ⟨fun i nm a b => let ⟨u, c, d⟩ := r.get i nm a b; ⟨u, c, d.st p k⟩, r.keys, r.few, r.size⟩

-- an object's relation holds on where its own object stands and what is never turned stands
theorem OR.st {G : Base} {φ φ' : Phi} {h h' : Heap} (p : φ <+: φ') (k : St h h') {o : AO} {a d : Addr} (e : h'.get? d = h.get? d) (r : OR G φ h o a d) : OR G φ' h' o a d := by
  cases o with
  | no => exact r
  | list xs =>
    obtain ⟨q, us, ⟨ob, n, ho, z⟩, v⟩ := r
    exact ⟨q, us, ⟨ob, n, e.trans ho, z⟩, v.st p k⟩
  | dict ep kvs =>
    obtain ⟨q, xs, ho, n, v⟩ := r
    exact ⟨q, xs, e.trans ho, n, v.st p k⟩
  | inst fs =>
    obtain ⟨q, es, n, ho, v⟩ := r
    exact ⟨k _ _ q (.inr (.inr rfl)), es, n, e.trans ho, v.st p k⟩

section
variable {G : Base} {φ φ' : Phi} {η η' : H} {h h' : Heap}
theorem HR.lt (r : HR G φ η h) {p : Addr × Addr} (hp : p ∈ φ) : p.2 < h.objs.size := by
  obtain ⟨ob, ho, -⟩ := r.alive hp
  exact Heap.lt_size ho
theorem HR.new (r : HR G φ η h) {p : Addr × Addr} (hp : p ∈ φ) : G.h₀.get? p.2 = none := (r.above p hp).1
-- nothing tracked is turned, nothing is lost
theorem HR.grow (r : HR G φ η h) (k : ∀ b o, h.get? b = some o → h'.get? b = some o) : HR G φ η h' :=
  ⟨fun b o e => k b o (r.keep b o e), r.len, fun i a d e => by
    obtain ⟨ob, ho, -⟩ := (r.obj i a d e).alive
    exact (r.obj i a d e).st (List.prefix_refl _) (fun b o e _ => k b o e) ((k _ _ ho).trans ho.symm), r.above, r.nd, fun b o e => k b o (r.frz b o e), r.aboveF, r.ror⟩
theorem HR.view (r : HR G φ η h) (e : ∀ i, η'.t.get i = η.t.get i) (n : η'.n = η.n) (q : η'.r = η.r) : HR G φ η' h :=
  ⟨r.keep, r.len.trans n.symm, fun i a d z => by rw [e]; exact r.obj i a d z, r.above, r.nd, r.frz, r.aboveF, q.trans r.ror⟩
-- one object more
theorem HR.alloc (r : HR G φ η h) {o : AO} {a d : Addr} (ha : G.h₀.objs.size ≤ d) (hd : ∀ ob, h.get? d ≠ some ob) (k : ∀ b ob, h.get? b = some ob → h'.get? b = some ob)
    (x : OR G (φ ++ [(a, d)]) h' o a d) : HR G (φ ++ [(a, d)]) ⟨η.t.put o η.n, Nat.succ η.n, η.r⟩ h' := by
  have r' := r.grow k
  refine ⟨r'.keep, ?_, fun i b c e => ?_, fun p hp => ?_, ?_, r'.frz, fun i p e hi ob hf => ?_, r.ror⟩
  · show (φ ++ [(a, d)]).length = η.n + 1
    rw [List.length_append, r.len]; rfl
  · show OR G _ h' ((η.t.put o η.n).get i) b c
    rw [tget_put]
    by_cases q : η.n = i
    · rw [if_pos q]
      subst q
      rw [← r.len, List.getElem?_append_right (Nat.le_refl _), Nat.sub_self] at e
      simp only [List.getElem?_cons_zero, Option.some.injEq, Prod.mk.injEq] at e
      obtain ⟨rfl, rfl⟩ := e
      exact x
    · rw [if_neg q]
      have hi : i < φ.length := by
        have h1 := (List.getElem?_eq_some_iff.mp e).1
        rw [List.length_append] at h1
        have h2 : i ≠ φ.length := by rw [r.len]; exact fun z => q z.symm
        simp at h1; (first | lia | omega)
      rw [List.getElem?_append_left hi] at e
      exact (r'.obj i b c e).st (List.prefix_append _ _) (St.refl _) rfl
  · rcases List.mem_append.mp hp with hp | hp
    · exact r.above p hp
    · simp only [List.mem_singleton] at hp
      subst hp
      refine ⟨?_, Nat.lt_of_lt_of_le (modules_low G.lim) ha⟩
      cases q : G.h₀.get? d with
      | none => rfl
      | some o => exact absurd (Heap.lt_size q) (Nat.not_lt.mpr ha)
  · rw [List.map_append, List.nodup_append]
    refine ⟨r.nd, by simp, fun b hb c hc => ?_⟩
    simp only [List.map_cons, List.map_nil, List.mem_singleton] at hc
    subst hc
    rintro rfl
    obtain ⟨p, hp, rfl⟩ := List.mem_map.mp hb
    obtain ⟨ob, ho, -⟩ := r.alive hp
    exact hd ob ho
  · by_cases q : i < φ.length
    · rw [List.getElem?_append_left q] at e
      exact r.aboveF i p e hi ob hf
    · have hp := List.mem_of_getElem? e
      rw [List.getElem?_append_right (by (first | lia | omega))] at e
      have hp := List.mem_of_getElem? e
      simp only [List.mem_singleton] at hp
      subst hp
      exact hd ob (r.frz _ _ hf)
-- one object turned
theorem HR.turn (r : HR G φ η h) {i : Nat} {a d : Addr} {o : AO} (e : φ[i]? = some (a, d)) (k : ∀ b, b ≠ d → h'.get? b = h.get? b) (hro : G.ro ≤ i) (x : OR G φ h' o a d) : HR G φ ⟨η.t.put o i, η.n, η.r⟩ h' := by
  have hm : (a, d) ∈ φ := List.mem_of_getElem? e
  obtain ⟨od, hod, hni⟩ := r.alive hm
  have hod : h.get? d = some od := hod
  have st : St h h' := fun b o e' i' => by
    by_cases q : b = d
    · rw [q, hod] at e'; cases e'; exact absurd i' hni
    · exact (k b q).trans e'
  refine ⟨fun b ob q => ?_, r.len, fun j b c q => ?_, r.above, r.nd, fun b ob q => ?_, r.aboveF, r.ror⟩
  · have : b ≠ d := by rintro rfl; rw [r.new hm] at q; cases q
    exact (k b this).trans (r.keep b ob q)
  · show OR G φ h' ((η.t.put o i).get j) b c
    rw [tget_put]
    by_cases z : i = j
    · subst z
      rw [if_pos rfl]
      rw [e] at q; cases q; exact x
    · rw [if_neg z]
      have hc : c ≠ d := by
        rintro rfl
        apply z
        have h1 : (φ.map (·.2))[i]? = some c := by rw [List.getElem?_map, e]; rfl
        have h2 : (φ.map (·.2))[j]? = some c := by rw [List.getElem?_map, q]; rfl
        exact (List.getElem?_inj (List.getElem?_eq_some_iff.mp h1).1 r.nd).mp (h1.trans h2.symm)
      exact (r.obj j b c q).st (List.prefix_refl _) st (k c hc)
  · have : b ≠ d := by rintro rfl; exact r.aboveF i _ e hro ob q
    exact (k b this).trans (r.frz b ob q)
theorem Step.turn {s s' : Shared} {a d : Addr} (hm : (a, d) ∈ φ) (k : ∀ b, b ≠ d → s'.heap.get? b = s.heap.get? b) (g : s'.gens = s.gens) (dr : s'.drawn = s.drawn) (o : s'.os = s.os) : Step φ φ s s' :=
  ⟨List.prefix_refl _, fun b ob e n => (k b fun q => n _ hm q.symm).trans e, fun _ h => .inl h, g, dr, o⟩
theorem Step.alloc {s s' : Shared} {a d : Addr} (hd : ∀ ob, s.heap.get? d ≠ some ob) (k : ∀ b ob, s.heap.get? b = some ob → s'.heap.get? b = some ob) (g : s'.gens = s.gens) (dr : s'.drawn = s.drawn) (o : s'.os = s.os) : Step φ (φ ++ [(a, d)]) s s' :=
  ⟨List.prefix_append _ _, fun b ob e _ => k b ob e, fun p hp => by
    rcases List.mem_append.mp hp with hp | hp
    · exact .inl hp
    · simp only [List.mem_singleton] at hp
      subst hp
      right
      cases q : s.heap.get? d with
      | none => rfl
      | some ob => exact absurd q (hd ob), g, dr, o⟩
end

-- a frame
structure Fx where
  cn : Str
  cs : Scope
  a : Addr
  ccd : Value
  names : List Str
abbrev Fx.env (f : Fx) (L : Addr) : Env := envX f.cn f.cs L f.a f.ccd []
structure Fx.Ok (f : Fx) : Prop where
  kind : f.cs.kind = .function
  nd : f.names.Nodup
  loc : ∀ nm ∈ f.names, f.cs.names.lookup nm = some .local
  dbg : ∀ nm ∈ f.names, (nm == ("__debug__" : Str)) = false

structure SR (G : Base) (f : Fx) (φ : Phi) (η : H) (L : Addr) (loc : Loc) (s : Shared) : Prop where
  hr : HR G φ η s.heap
  above : G.h₀.objs.size ≤ L
  out : ∀ p ∈ φ, p.2 ≠ L
  outF : ∀ o, ¬ G.fz L o
  fr : ∃ m, s.heap.Ns L m ∧ ∀ i nm, f.names[i]? = some nm → getV loc i ≠ .unb → ∃ u, m nm = some u ∧ VR φ s.heap (getV loc i) u

theorem SR.step {G : Base} {f : Fx} {φ φ' : Phi} {η η' : H} {L : Addr} {loc : Loc} {s s' : Shared} (x : SR G f φ η L loc s) (y : Step φ φ' s s') (r : HR G φ' η' s'.heap) : SR G f φ' η' L loc s' := by
  obtain ⟨m, ⟨o, es, ep, ho, z⟩, hm⟩ := x.fr
  refine ⟨r, x.above, fun p hp q => ?_, x.outF, m, ⟨o, es, ep, y.ev _ _ ho x.out, z⟩, fun i nm a b => ?_⟩
  · rcases y.fresh p hp with h | h
    · exact x.out p h q
    · rw [q, ho] at h; cases h
  · obtain ⟨u, c, d⟩ := hm i nm a b
    exact ⟨u, c, d.st y.pre (y.st x.hr)⟩

structure Room (A : Around) (n : Nat) : Prop where
  depth : A.depth + n < recursionLimit
  units : A.units + 8 * n + 16 < cLine
  handled : A.handled = none
theorem Room.less {A : Around} {n m : Nat} (x : Room A n) (h : m ≤ n) : Room A m := ⟨by have := x.depth; (first | lia | omega), by have := x.units; (first | lia | omega), x.handled⟩

abbrev NoE : Value → Shared → Prop := fun _ _ => False

-- what an expression comes to
noncomputable def Post (G : Base) (φ : Phi) (s : Shared) (k : V → H → Bool) (u : Value) (s' : Shared) : Prop :=
  ∃ v η' φ', k v η' = true ∧ VR φ' s'.heap v u ∧ Step φ φ' s s' ∧ HR G φ' η' s'.heap
noncomputable def ES (G : Base) (f : Fx) (n : Nat) (m : XE) (e : Expr) : Prop :=
  ∀ A L φ η loc s k, Room A n → SR G f φ η L loc s → m loc η k = true → wpAny G.M A (eval e (f.env L)) (Post G φ s k) NoE s

theorem Post.mk {G : Base} {φ : Phi} {η : H} {s s' : Shared} {k : V → H → Bool} {v : V} {u : Value} (hr : HR G φ η s.heap) (hk : k v η = true) (hv : VR φ s'.heap v u)
    (kp : ∀ b o, s.heap.get? b = some o → s'.heap.get? b = some o) (g : s'.gens = s.gens := by rfl) (d : s'.drawn = s.drawn := by rfl) (o : s'.os = s.os := by rfl) : Post G φ s k u s' :=
  ⟨v, η, φ, hk, hv, Step.same kp g d o, hr.grow kp⟩

-- one expression, then another
theorem ES.then {G : Base} {f : Fx} {n : Nat} {m : XE} {e : Expr} (x : ES G f n m e) {β : Type} {A : Around} {L : Addr} {φ : Phi} {η : H} {loc : Loc} {s : Shared} {k : V → H → Bool} (hA : Room A n)
    (S : SR G f φ η L loc s) (h : m loc η k = true) {Q : Value → Shared → Prop} {E : Value → Shared → Prop}
    (nx : ∀ u v η' φ' s', k v η' = true → VR φ' s'.heap v u → Step φ φ' s s' → SR G f φ' η' L loc s' → Q u s') : wpAny G.M A (eval e (f.env L)) Q E s :=
  let _ := β
  wpAny_mono (x A L φ η loc s k hA S h) (fun u s' ⟨v, η', φ', a, b, c, d⟩ => nx u v η' φ' s' a b c (S.step c d)) fun _ _ z => z.elim

theorem SR.st {G : Base} {f : Fx} {φ φ' : Phi} {η : H} {L : Addr} {loc : Loc} {s s' : Shared} (S : SR G f φ η L loc s) (y : Step φ φ' s s') : St s.heap s'.heap := y.st S.hr
end Kp
end
-- part KpOps
section
set_option autoImplicit false
namespace Kp
open PySem PySem.W PyProof.Rows PySem.Calls

theorem isub_eq (m n : Nat) : isub m n = (m : Int) - (n : Int) := by
  unfold isub
  have e1 : Nat.sub n m = n - m := rfl
  have e2 : Nat.sub m n = m - n := rfl
  rw [e1, e2]
  cases q : n - m with
  | zero => show Int.ofNat (m - n) = _; have : n ≤ m := by (first | lia | omega)
            show ((m - n : Nat) : Int) = _; (first | lia | omega)
  | succ k => show Int.negSucc k = _; (first | lia | omega)
theorem iadd_eq (a b : Int) : iadd a b = a + b := by
  cases a <;> cases b
  · rfl
  · show isub _ _ = _; rw [isub_eq]; simp; (first | lia | omega)
  · show isub _ _ = _; rw [isub_eq]; simp; (first | lia | omega)
  · show Int.negSucc _ = _; simp only [Int.negSucc_eq, Nat.add_eq, Nat.succ_eq_add_one]; (first | lia | omega)
theorem ineg_eq (a : Int) : ineg a = -a := by
  cases a with
  | ofNat m => cases m <;> rfl
  | negSucc m => rfl
theorem imul_eq (a b : Int) : imul a b = a * b := by cases a <;> cases b <;> rfl
theorem ifdiv_eq (a b : Int) : ifdiv a b = Int.fdiv a b := by
  cases a with
  | ofNat m => cases b with
    | ofNat n => show Int.ofNat (m / n) = _; cases m <;> simp [Int.fdiv]
    | negSucc n => rfl
  | negSucc m => rfl
theorem ifmod_eq (a b : Int) : ifmod a b = Int.fmod a b := by
  cases a with
  | ofNat m => cases b with
    | ofNat n => show Int.ofNat (m % n) = _; cases m <;> simp [Int.fmod]
    | negSucc n => rfl
  | negSucc m => rfl
theorem bnot_eq (a : Int) : bnot a = Builtin.bitNot a := by
  unfold Builtin.bitNot
  cases a with
  | ofNat m => show Int.negSucc m = _; rw [Int.negSucc_eq]; (try simp); (try (first | lia | omega))
  | negSucc m => show Int.ofNat m = _; rw [Int.negSucc_eq]; (try simp); (try (first | lia | omega))
theorem bn_of (m : Nat) : Builtin.bitNot (Int.negSucc m) = Int.ofNat m := by rw [← bnot_eq]; rfl
theorem bn_nat (m : Nat) : Builtin.bitNot (Int.ofNat m) = Int.negSucc m := by rw [← bnot_eq]; rfl
theorem ge_of (m : Nat) : decide (0 ≤ Int.ofNat m) = true := by simp
theorem ge_neg (m : Nat) : decide (0 ≤ Int.negSucc m) = false := by apply decide_eq_false; rw [Int.negSucc_eq]; (first | lia | omega)
theorem iand_eq (a b : Int) : iand a b = Builtin.bitAnd a b := by
  unfold Builtin.bitAnd
  cases a <;> cases b
  · rename_i m n
    rw [ge_of, ge_of]; rfl
  · rename_i m n
    rw [ge_of, ge_neg, bn_of]
    show Int.ofNat (m - (m &&& n)) = Int.ofNat m - ((m &&& n : Nat) : Int)
    have := @Nat.and_le_left m n
    show ((m - (m &&& n) : Nat) : Int) = (m : Int) - _
    (first | lia | omega)
  · rename_i m n
    rw [ge_of, ge_neg, bn_of]
    show Int.ofNat (n - (n &&& m)) = Int.ofNat n - ((n &&& m : Nat) : Int)
    have := @Nat.and_le_left n m
    show ((n - (n &&& m) : Nat) : Int) = (n : Int) - _
    (first | lia | omega)
  · rename_i m n
    rw [ge_neg, ge_neg, bn_of, bn_of]
    show Int.negSucc (m ||| n) = Builtin.bitNot ((m ||| n : Nat) : Int)
    exact (bn_nat _).symm
theorem ior_eq (a b : Int) : ior a b = Builtin.bitOr a b := by
  have key : ∀ a b, bnot (iand (bnot a) (bnot b)) = Builtin.bitOr a b := fun a b => by unfold Builtin.bitOr; rw [bnot_eq, iand_eq, bnot_eq, bnot_eq]
  cases a with
  | ofNat m => cases b with
    | ofNat n => rw [← key]; rfl
    | negSucc n => exact key (Int.ofNat m) (Int.negSucc n)
  | negSucc m => exact key (Int.negSucc m) b
theorem ieq_eq (a b : Int) : ieq a b = (a == b) := by
  cases a with
  | ofNat m => cases b with
    | ofNat n => show Nat.beq m n = _; rw [BT.beq_eq]; by_cases h : m = n <;> (simp [h]; try (first | lia | omega))
    | negSucc n => rfl
  | negSucc m => cases b with
    | ofNat n => rfl
    | negSucc n => show Nat.beq m n = _; rw [BT.beq_eq]; by_cases h : m = n <;> (simp [h]; try (first | lia | omega))
theorem ilt_eq (a b : Int) : ilt a b = decide (a < b) := by
  have q : ∀ m n : Nat, Nat.ble (Nat.succ m) n = decide (m < n) := fun m n => by
    by_cases h : m < n
    · rw [decide_eq_true h]; exact Nat.ble_eq_true_of_le h
    · rw [decide_eq_false h]
      cases z : Nat.ble (Nat.succ m) n with
      | false => rfl
      | true => exact absurd (Nat.le_of_ble_eq_true z) h
  cases a with
  | ofNat m => cases b with
    | ofNat n => show Nat.ble (Nat.succ m) n = _; rw [q]; by_cases h : m < n <;> simp [h]
    | negSucc n => show false = _; symm; apply decide_eq_false; simp [Int.negSucc_eq]; (first | lia | omega)
  | negSucc m => cases b with
    | ofNat n => show true = _; symm; apply decide_eq_true; simp [Int.negSucc_eq]; (first | lia | omega)
    | negSucc n => show Nat.ble (Nat.succ n) m = _; rw [q]; by_cases h : n < m
                   · rw [decide_eq_true h]; symm; apply decide_eq_true; simp [Int.negSucc_eq]; (first | lia | omega)
                   · rw [decide_eq_false h]; symm; apply decide_eq_false; simp [Int.negSucc_eq]; (first | lia | omega)
theorem bnt_eq (b : Bool) : bnt b = !b := by cases b <;> rfl

structure OpOk (G : Base) (o : Op) (op : Operator) : Prop where

  at_ : ∀ (A : Around) (s : Shared) (a b : Int) (t u : Tok) (k : Int → Bool) (Q : Value → Shared → Prop), o a b k = true →
  (∀ c tk tk', k c = true → Q (.int c tk) { s with toks := tk' }) → wpAny G.M A (binaryOp op (.int a t) (.int b u)) Q NoE s
structure IopOk (G : Base) (o : Op) (op : Operator) : Prop where

  at_ : ∀ (A : Around) (s : Shared) (a b : Int) (t u : Tok) (k : Int → Bool) (Q : Value → Shared → Prop), o a b k = true →
  (∀ c tk tk', k c = true → Q (.int c tk) { s with toks := tk' }) → wpAny G.M A (inplaceOp op (.int a t) (.int b u)) Q NoE s

theorem small_of {a : Int} {t : Bool} (h : small a t false = true) : t = true ∧ a < 2 ^ 61 ∧ -(2 ^ 61) < a := by
  unfold small at h
  rw [ilt_eq, ilt_eq] at h
  by_cases h1 : a < Int.ofNat 1152921504606846976
  · rw [decide_eq_true h1] at h
    by_cases h2 : Int.negSucc 1152921504606846976 < a
    · rw [decide_eq_true h2] at h
      refine ⟨h, ?_, ?_⟩
      · have : (Int.ofNat 1152921504606846976 : Int) = 1152921504606846976 := rfl
        rw [this] at h1; (first | lia | omega)
      · have : (Int.negSucc 1152921504606846976 : Int) = -1152921504606846977 := rfl
        rw [this] at h2; (first | lia | omega)
    · rw [decide_eq_false h2] at h; cases h
  · rw [decide_eq_false h1] at h; cases h

section
variable (G : Base)
theorem op_add : OpOk G oadd .Add := ⟨fun A s a b t u k Q h n => PySem.P.add_int (by unfold oadd at h; rw [iadd_eq] at h; exact n _ _ _ h)⟩
theorem op_sub : OpOk G osub .Sub := ⟨fun A s a b t u k Q h n => PySem.P.sub_int (by unfold osub at h; rw [iadd_eq, ineg_eq] at h; exact n _ _ _ (by rw [Int.sub_eq_add_neg]; exact h))⟩
theorem op_mul : OpOk G omul .Mult := ⟨fun A s a b t u k Q h n => by
  unfold omul at h
  obtain ⟨h, h1, h2⟩ := small_of h
  rw [imul_eq] at h
  exact PySem.P.mul_int (n _ _ _ h) (IntMulOk.of_left (intBits_le_64 (by (first | lia | omega)) (by (first | lia | omega))))⟩
theorem pos_of {a b : Int} {f : Int → Bool} (h : pos2 a b f = true) : 0 < b ∧ b ≤ 1000000 ∧ f a = true := by
  unfold pos2 at h
  cases b with
  | negSucc n => cases h
  | ofNat n => cases n with
    | zero => cases h
    | succ n =>
      have h : bcase (Nat.ble (n + 1) 1000000) (f a) false = true := h
      cases q : Nat.ble (n + 1) 1000000 with
      | false => rw [q] at h; cases h
      | true =>
        rw [q] at h
        have := Nat.le_of_ble_eq_true q
        exact ⟨by show (0 : Int) < ((n + 1 : Nat) : Int); (first | lia | omega), by show ((n + 1 : Nat) : Int) ≤ _; (first | lia | omega), h⟩
theorem op_div : OpOk G odiv .FloorDiv := ⟨fun A s a b t u k Q h n => by
  unfold odiv at h
  obtain ⟨h1, h2, h⟩ := pos_of h
  rw [ifdiv_eq] at h
  exact floordiv_int (by (first | lia | omega)) (n _ _ _ h) (Or.inl (PyProof.noPylong_small (by (first | lia | omega))))⟩
theorem op_mod : OpOk G omod .Mod := ⟨fun A s a b t u k Q h n => by
  unfold omod at h
  obtain ⟨h1, h2, h⟩ := pos_of h
  rw [ifmod_eq] at h
  exact PyProof.Rows.mod_int' (by (first | lia | omega)) (n _ _ _ h)⟩
theorem nat2_of {a b : Int} {f : Nat → Nat → Bool} (h : nat2 a b f = true) : ∃ m n : Nat, a = .ofNat m ∧ b = .ofNat n ∧ f m n = true := by
  cases a with
  | negSucc n => cases h
  | ofNat m => cases b with
    | negSucc n => cases h
    | ofNat n => exact ⟨m, n, rfl, rfl, h⟩
theorem bc_of {c x : Bool} (h : bcase c x false = true) : c = true ∧ x = true := by
  cases c with
  | true => exact ⟨rfl, h⟩
  | false => cases h
theorem op_shl : OpOk G oshl .LShift := ⟨fun A s a b t u k Q h n => by
  unfold oshl at h
  obtain ⟨x, y, rfl, rfl, h⟩ := nat2_of h
  obtain ⟨h1, h⟩ := bc_of h
  obtain ⟨h2, h⟩ := bc_of h
  have h1 : y ≤ 60 := Nat.le_of_ble_eq_true h1
  have h2 : x ≤ 1152921504606846976 := Nat.le_of_ble_eq_true h2
  have e : Int.ofNat (Nat.shiftLeft x y) = Int.ofNat x * 2 ^ (Int.ofNat y).toNat := by
    show ((x <<< y : Nat) : Int) = _
    rw [Nat.shiftLeft_eq]
    show ((x * 2 ^ y : Nat) : Int) = (x : Int) * 2 ^ y
    push_cast; rfl
  rw [e] at h
  refine PyProof.Rows.lshift_int_small (by simp) (by show (y : Int) ≤ 1000000; (first | lia | omega)) (by show x < 18446744073709551616; (first | lia | omega)) (n _ _ _ h)⟩
theorem op_shr : OpOk G oshr .RShift := ⟨fun A s a b t u k Q h n => by
  unfold oshr at h
  obtain ⟨x, y, rfl, rfl, h'⟩ := nat2_of h
  clear h
  have h := h'
  clear h'
  have e : Int.ofNat (Nat.shiftRight x y) = (Int.ofNat x).fdiv (2 ^ (Int.ofNat y).toNat) := by
    show ((x >>> y : Nat) : Int) = _
    rw [Nat.shiftRight_eq_div_pow, Int.fdiv_eq_ediv_of_nonneg]
    · show ((x / 2 ^ y : Nat) : Int) = (x : Int) / 2 ^ y
      push_cast; rfl
    · exact Int.pow_nonneg (by decide)
  rw [e] at h
  exact PyProof.Rows.rshift_int (by simp) (n _ _ _ h)⟩
theorem op_and : OpOk G oand .BitAnd := ⟨fun A s a b t u k Q h n => PyProof.Rows.and_int (by unfold oand at h; rw [iand_eq] at h; exact n _ _ _ h)⟩
theorem op_or : OpOk G oor .BitOr := ⟨fun A s a b t u k Q h n => PyProof.Rows.or_int (by unfold oor at h; rw [ior_eq] at h; exact n _ _ _ h)⟩
theorem op_xor : OpOk G oxor .BitXor := ⟨fun A s a b t u k Q h n => PyProof.Rows.xor_int (by
  unfold oxor at h; rw [iadd_eq, ineg_eq, ior_eq, iand_eq] at h
  exact n _ _ _ (by unfold Builtin.bitXor; rw [Int.sub_eq_add_neg]; exact h))⟩
theorem iop_add : IopOk G oadd .Add := ⟨fun A s a b t u k Q h n => PySem.P.iadd_int (by unfold oadd at h; rw [iadd_eq] at h; exact n _ _ _ h)⟩
theorem iop_or : IopOk G oor .BitOr := ⟨fun A s a b t u k Q h n => PyProof.Rows.ior_int (by unfold oor at h; rw [ior_eq] at h; exact n _ _ _ h)⟩
theorem iop_shr : IopOk G oshr .RShift := ⟨fun A s a b t u k Q h n => by
  unfold oshr at h
  obtain ⟨x, y, rfl, rfl, h'⟩ := nat2_of h
  clear h
  have h := h'
  clear h'
  have e : Int.ofNat (Nat.shiftRight x y) = (Int.ofNat x).fdiv (2 ^ (Int.ofNat y).toNat) := by
    show ((x >>> y : Nat) : Int) = _
    rw [Nat.shiftRight_eq_div_pow, Int.fdiv_eq_ediv_of_nonneg]
    · show ((x / 2 ^ y : Nat) : Int) = (x : Int) / 2 ^ y
      push_cast; rfl
    · exact Int.pow_nonneg (by decide)
  rw [e] at h
  exact PyProof.Rows.irshift_int (by simp) (n _ _ _ h)⟩

structure CmOk (c : Cm) (op : CmpOp) : Prop where

  at_ : ∀ (A : Around) (s : Shared) (a b : Int) (t u : Tok) (Q : Value → Shared → Prop), Q (.bool (c a b)) s → wpAny G.M A (compareOp op (.int a t) (.int b u)) Q NoE s
theorem cm_eq : CmOk G ceq .Eq := ⟨fun A s a b t u Q h => PySem.P.eq_int (by rw [← ieq_eq]; exact h)⟩
theorem cm_ne : CmOk G cne .NotEq := ⟨fun A s a b t u Q h => PySem.P.ne_int (by unfold cne at h; rw [bnt_eq, ieq_eq] at h; exact h)⟩
theorem cm_lt : CmOk G clt .Lt := ⟨fun A s a b t u Q h => PySem.P.lt_int (by rw [← ilt_eq]; exact h)⟩
theorem cm_le : CmOk G cle .LtE := ⟨fun A s a b t u Q h => PySem.P.le_int (by
  unfold cle at h; rw [bnt_eq, ilt_eq] at h
  have : decide (a ≤ b) = !decide (b < a) := by by_cases q : b < a <;> simp [q] <;> (first | lia | omega)
  rw [this]; exact h)⟩
theorem cm_gt : CmOk G cgt .Gt := ⟨fun A s a b t u Q h => PySem.P.gt_int (by unfold cgt at h; rw [ilt_eq] at h; exact h)⟩
theorem cm_ge : CmOk G cge .GtE := ⟨fun A s a b t u Q h => PySem.P.ge_int (by
  unfold cge at h; rw [bnt_eq, ilt_eq] at h
  have : decide (a ≥ b) = !decide (a < b) := by by_cases q : a < b <;> simp [q] <;> (first | lia | omega)
  rw [this]; exact h)⟩
end
end Kp
end
-- part KpExpr
section
set_option autoImplicit false
namespace Kp
open PySem PySem.W PyProof.Rows PySem.Calls

-- what a combinator's answer says
theorem asInt_of {v : V} {k : Int → Bool} (h : asInt v k = true) : ∃ i, v = .int i ∧ k i = true := by
  cases v <;> first | exact ⟨_, rfl, h⟩ | cases h
theorem asNat_of {v : V} {k : Nat → Bool} (h : asNat v k = true) : ∃ n : Nat, v = .int (.ofNat n) ∧ k n = true := by
  obtain ⟨i, e, h1⟩ := asInt_of h
  subst e
  cases i <;> first | exact ⟨_, rfl, h1⟩ | cases h1
theorem asRef_of {v : V} {k : Nat → Bool} (h : asRef v k = true) : ∃ n, v = .ref n ∧ k n = true := by
  cases v <;> first | exact ⟨_, rfl, h⟩ | cases h
theorem asTup_of {v : V} {k : List V → Bool} (h : asTup v k = true) : ∃ n, v = .tup n ∧ k n = true := by
  cases v <;> first | exact ⟨_, rfl, h⟩ | cases h
theorem known_of {v : V} {k : V → Bool} (h : known v k = true) : v ≠ .unb ∧ k v = true := by
  cases v <;> first | exact ⟨(fun e => by cases e), h⟩ | cases h
theorem truthy_of {v : V} {k : Bool → Bool} (h : truthy v k = true) : ∃ b, k b = true ∧ (v = .bool b ∨ ∃ i, v = .int i ∧ b = (i != 0)) := by
  cases v with
  | bool b => exact ⟨b, h, .inl rfl⟩
  | int i =>
    refine ⟨_, h, .inr ⟨i, rfl, ?_⟩⟩
    rw [bnt_eq, ieq_eq]; rfl
  | _ => cases h
theorem truthy_at {v : V} {b : Bool} (x : v = .bool b ∨ ∃ i, v = .int i ∧ b = (i != 0)) (k : Bool → Bool) : truthy v k = k b := by
  rcases x with rfl | ⟨i, rfl, rfl⟩
  · rfl
  · show k (bnt (ieq i (.ofNat 0))) = _
    rw [bnt_eq, ieq_eq]; rfl
theorem asList_of {v : V} {η : H} {k : Nat → List V → Bool} (h : asList v η k = true) : ∃ n xs, v = .ref n ∧ η.t.get n = .list xs ∧ k n xs = true := by
  unfold asList at h
  obtain ⟨n, e0, h1⟩ := asRef_of h
  have e : getT η n = η.t.get n := rfl
  rw [e] at h1
  cases q : η.t.get n <;> rw [q] at h1 <;> first | cases h1 | exact ⟨n, _, e0, q, h1⟩
theorem obj_of {o : AO} {fl : List V → Bool} {fd : Nat → List (V × V) → Bool} {fi : List V → Bool} (h : objCase o fl fd fi = true) :
    (∃ xs, o = .list xs ∧ fl xs = true) ∨ (∃ ep kvs, o = .dict ep kvs ∧ fd ep kvs = true) ∨ ∃ fs, o = .inst fs ∧ fi fs = true := by
  cases o with
  | no => cases h
  | list xs => exact .inl ⟨xs, rfl, h⟩
  | dict ep kvs => exact .inr (.inl ⟨ep, kvs, rfl, h⟩)
  | inst fs => exact .inr (.inr ⟨fs, rfl, h⟩)

section
variable {G : Base} {f : Fx} {n : Nat}

theorem Post.from {φ φ' : Phi} {η η' : H} {s s' s'' : Shared} {k : V → H → Bool} {u : Value} (st : Step φ φ' s s') (r : HR G φ η s.heap) (r' : HR G φ' η' s'.heap) (p : Post G φ' s' k u s'') : Post G φ s k u s'' := by
  obtain ⟨v, ζ, ψ, a, b, c, d⟩ := p
  exact ⟨v, ζ, ψ, a, b, st.trans c r r', d⟩

-- a step that turns the count alone
theorem Post.tick {φ : Phi} {η : H} {s : Shared} {k : V → H → Bool} {v : V} {u : Value} {tk : Nat} (hr : HR G φ η s.heap) (hk : k v η = true) (hv : VR φ s.heap v u) : Post G φ s k u { s with toks := tk } :=
  ⟨v, η, φ, hk, hv, Step.same (fun _ _ e => e) rfl rfl rfl, hr⟩

noncomputable def PostB (G : Base) (φ : Phi) (s : Shared) (k : Bool → H → Bool) (b : Bool) (s' : Shared) : Prop := ∃ η' φ', k b η' = true ∧ Step φ φ' s s' ∧ HR G φ' η' s'.heap
noncomputable def TS (G : Base) (f : Fx) (n : Nat) (m : XE) (e : Expr) : Prop :=
  ∀ A L φ η loc s k, Room A n → SR G f φ η L loc s → m loc η (fun v h => truthy v fun b => k b h) = true → wpAny G.M A (isTrue e (f.env L) (eval e (f.env L))) (PostB G φ s k) NoE s
theorem PostB.from {φ φ' : Phi} {η η' : H} {s s' s'' : Shared} {k : Bool → H → Bool} {u : Bool} (st : Step φ φ' s s') (r : HR G φ η s.heap) (r' : HR G φ' η' s'.heap) (p : PostB G φ' s' k u s'') : PostB G φ s k u s'' := by
  obtain ⟨ζ, ψ, a, c, d⟩ := p
  exact ⟨ζ, ψ, a, st.trans c r r', d⟩
theorem PostB.tick {φ : Phi} {η : H} {s : Shared} {k : Bool → H → Bool} {b : Bool} {tk : Nat} (hr : HR G φ η s.heap) (hk : k b η = true) : PostB G φ s k b { s with toks := tk } :=
  ⟨η, φ, hk, Step.same (fun _ _ e => e) rfl rfl rfl, hr⟩

theorem wp_truthy {φ : Phi} {h : Heap} {v : V} {u : Value} {b : Bool} {A : Around} {s : Shared} {Q : Bool → Shared → Prop} {E : Value → Shared → Prop} (hv : VR φ h v u) (x : v = .bool b ∨ ∃ i, v = .int i ∧ b = (i != 0)) (q : Q b s) : wpAny G.M A (PySem.truthy u) Q E s := by
  rcases x with rfl | ⟨i, rfl, rfl⟩
  · rw [show u = .bool b from hv]; exact wpAny_truthy_bool q
  · obtain ⟨t, rfl⟩ := VR.int hv
    exact PySem.P.truthy_int q

theorem TS.of {m : XE} {e : Expr} (x : ES G f n m e) (hi : ∀ env w, isTrue e env w = (do let v ← w; standAt e.pos; holding [v] (PySem.truthy v)) := by intro _ _; with_unfolding_all rfl) : TS G f n m e := by
  intro A L φ η loc s k hA S h
  rw [hi]
  refine wpAny_bind (x.then (β := Unit) hA S h fun u v η1 φ1 s1 hk hv st S1 => ?_)
  obtain ⟨b, hb, y⟩ := truthy_of hk
  exact wpAny_bind (wpAny_standAt (wpAny_holding (wp_truthy hv y ⟨η1, φ1, hb, st, S1.hr⟩)))

theorem wp_rel {M : Model} {A : Around} {E : Value → Shared → Prop} {s : Shared} {vs kp : List Value} {Q : Unit → Shared → Prop} (h : Q () s) : wpAny M A (release vs kp) Q E s := fun Γ p _ => by rw [Sem.wp_release]; exact h

-- literals
theorem es_int {i j : Int} {k : Nat} {pos : Pos} (h : i = j) : ES G f n (xlit (.int i)) (.Constant (.int j) k pos) := by
  subst h
  intro A L φ η loc s k hA S h
  exact wpAny_Constant_int (Post.tick S.hr h ⟨_, rfl⟩)
theorem es_none {k : Nat} {pos : Pos} : ES G f n (xlit .none) (.Constant .none k pos) := by
  intro A L φ η loc s k hA S h
  exact wpAny_Constant_none (Post.tick (tk := s.toks) S.hr h rfl)
theorem es_bool {b : Bool} {k : Nat} {pos : Pos} : ES G f n (xlit (.bool b)) (.Constant (.bool b) k pos) := by
  intro A L φ η loc s k hA S h
  exact wpAny_Constant_bool (Post.tick (tk := s.toks) S.hr h rfl)

-- names
theorem es_loc {i : Nat} {nm : Str} {pos : Pos} (ok : f.Ok) (hn : f.names[i]? = some nm) : ES G f n (xloc i) (.Name nm pos) := by
  intro A L φ η loc s k hA S h
  obtain ⟨hu, hk⟩ := known_of h
  obtain ⟨m, ns, hm⟩ := S.fr
  obtain ⟨u, e, hv⟩ := hm i nm hn hu
  have mem := List.mem_of_getElem? hn
  exact wpAny_Name (wpAny_loadName_local ok.kind (ok.loc _ mem) ns e (Post.tick (tk := s.toks) S.hr hk hv)) (ok.dbg _ mem)
theorem es_glob {x : Str} {pos : Pos} {v : V} {u : Value} (ok : f.Ok) (hx : f.cs.names.lookup x = some .globalImplicit) (hm : G.mg x = some u) (hv : ∀ φ h, (∀ b o, G.h₀.get? b = some o → h.get? b = some o) → VR φ h v u) (hd : (x == ("__debug__" : Str)) = false) :
    ES G f n (xlit v) (.Name x pos) := by
  intro A L φ η loc s k hA S h
  exact Name_function_global (env := f.env L) ok.kind hx (loadGlobal_global (env := f.env L) (G.g.keeps S.hr.keep) hm (Post.tick (tk := s.toks) S.hr h (hv _ _ S.hr.keep))) hd

-- ints
theorem es_bin {o : Op} {op : Operator} {m₁ m₂ : XE} {e₁ e₂ : Expr} {pos : Pos} (ho : OpOk G o op) (h₁ : ES G f n m₁ e₁) (h₂ : ES G f n m₂ e₂) : ES G f n (xbin o m₁ m₂) (.BinOp e₁ op e₂ pos) := by
  intro A L φ η loc s k hA S h
  refine wpAny_BinOp (h₁.then (β := Unit) hA S h fun u v η1 φ1 s1 hk hv st S1 => ?_)
  refine h₂.then (β := Unit) hA S1 hk fun u2 v2 η2 φ2 s2 hk2 hv2 st2 S2 => ?_
  obtain ⟨i, rfl, hk3⟩ := asInt_of hk2
  obtain ⟨j, rfl, hk4⟩ := asInt_of hk3
  obtain ⟨t, rfl⟩ := VR.int hv
  obtain ⟨t2, rfl⟩ := VR.int hv2
  refine ho.at_ _ _ _ _ _ _ _ _ hk4 fun c tk tk' hc => ?_
  exact Post.from (st.trans st2 S.hr S1.hr) S.hr S2.hr (Post.tick S2.hr hc ⟨_, rfl⟩)
theorem es_neg {m : XE} {e : Expr} {pos : Pos} (h₁ : ES G f n m e) : ES G f n (xneg m) (.UnaryOp .USub e pos) := by
  intro A L φ η loc s k hA S h
  refine wpAny_UnaryOp (h₁.then (β := Unit) hA S h fun u v η1 φ1 s1 hk hv st S1 => ?_)
  obtain ⟨i, rfl, hk'⟩ := asInt_of hk
  obtain ⟨t, rfl⟩ := VR.int hv
  rw [ineg_eq] at hk'
  exact PySem.P.neg_int (Post.from st S.hr S1.hr (Post.tick S1.hr hk' ⟨_, rfl⟩))
theorem es_inv {m : XE} {e : Expr} {pos : Pos} (h₁ : ES G f n m e) : ES G f n (xinv m) (.UnaryOp .Invert e pos) := by
  intro A L φ η loc s k hA S h
  refine wpAny_UnaryOp (h₁.then (β := Unit) hA S h fun u v η1 φ1 s1 hk hv st S1 => ?_)
  obtain ⟨i, rfl, hk'⟩ := asInt_of hk
  obtain ⟨t, rfl⟩ := VR.int hv
  rw [bnot_eq] at hk'
  exact PyProof.Rows.invert_int (Post.from st S.hr S1.hr (Post.tick S1.hr hk' ⟨_, rfl⟩))
theorem es_not {m : XE} {e : Expr} {pos : Pos} (h₁ : ES G f n m e) : ES G f n (xnot m) (.UnaryOp .Not e pos) := by
  intro A L φ η loc s k hA S h
  refine wpAny_UnaryOp (h₁.then (β := Unit) hA S h fun u v η1 φ1 s1 hk hv st S1 => ?_)
  obtain ⟨b, hb, y⟩ := truthy_of hk
  rw [bnt_eq] at hb
  exact PyProof.Rows.not_of (wp_truthy hv y (Post.from st S.hr S1.hr (Post.tick (tk := s1.toks) S1.hr hb rfl)))
theorem ts_not {m : XE} {e : Expr} {pos : Pos} (h₁ : TS G f n m e) : TS G f n (xnot m) (.UnaryOp .Not e pos) := by
  intro A L φ η loc s k hA S h
  show wpAny _ _ (isTrue e (f.env L) (eval e (f.env L)) >>= fun b => pure !b) _ _ _
  refine wpAny_bind (wpAny_mono (h₁ A L φ η loc s (fun b h => k (bnt b) h) hA S h) (fun b s' x => wpAny_pure ?_) fun _ _ z => z)
  obtain ⟨ζ, ψ, a, c, d⟩ := x
  have a' : k (bnt b) ζ = true := a
  rw [bnt_eq] at a'
  exact ⟨ζ, ψ, a', c, d⟩

-- comparisons of ints
theorem es_cmp {c : Cm} {op : CmpOp} {m₁ m₂ : XE} {e₁ e₂ : Expr} {pos : Pos} (ho : CmOk G c op) (h₁ : ES G f n m₁ e₁) (h₂ : ES G f n m₂ e₂) (hm : behindInMarks op e₂ = false := by with_unfolding_all rfl) : ES G f n (xcmp c m₁ m₂) (.Compare e₁ [op] [e₂] pos) := by
  intro A L φ η loc s k hA S h
  refine wpAny_Compare1 (hm := hm) (h₁.then (β := Unit) hA S h fun u v η1 φ1 s1 hk hv st S1 => ?_)
  refine h₂.then (β := Unit) hA S1 hk fun u2 v2 η2 φ2 s2 hk2 hv2 st2 S2 => ?_
  obtain ⟨i, rfl, hk3⟩ := asInt_of hk2
  obtain ⟨j, rfl, hk4⟩ := asInt_of hk3
  obtain ⟨t, rfl⟩ := VR.int hv
  obtain ⟨t2, rfl⟩ := VR.int hv2
  exact ho.at_ _ _ _ _ _ _ _ (Post.from (st.trans st2 S.hr S1.hr) S.hr S2.hr (Post.tick (tk := s2.toks) S2.hr hk4 rfl))
theorem ts_cmp {c : Cm} {op : CmpOp} {m₁ m₂ : XE} {e₁ e₂ : Expr} {pos : Pos} (ho : CmOk G c op) (h₁ : ES G f n m₁ e₁) (h₂ : ES G f n m₂ e₂) (hm : behindInMarks op e₂ = false := by with_unfolding_all rfl) : TS G f n (xcmp c m₁ m₂) (.Compare e₁ [op] [e₂] pos) := by
  intro A L φ η loc s k hA S h
  refine wpAny_isTrue_Compare1 (hm := hm) (h₁.then (β := Unit) hA S h fun u v η1 φ1 s1 hk hv st S1 => ?_)
  refine h₂.then (β := Unit) hA S1 hk fun u2 v2 η2 φ2 s2 hk2 hv2 st2 S2 => ?_
  obtain ⟨i, rfl, hk3⟩ := asInt_of hk2
  obtain ⟨j, rfl, hk4⟩ := asInt_of hk3
  obtain ⟨t, rfl⟩ := VR.int hv
  obtain ⟨t2, rfl⟩ := VR.int hv2
  refine ho.at_ _ _ _ _ _ _ _ (wpAny_truthy_bool ?_)
  exact ⟨η2, φ2, hk4, st.trans st2 S.hr S1.hr, S2.hr⟩
theorem es_cmp2 {c d : Cm} {o₁ o₂ : CmpOp} {m₁ m₂ m₃ : XE} {e₁ e₂ e₃ : Expr} {pos : Pos} (ho : CmOk G c o₁) (ho2 : CmOk G d o₂) (h₁ : ES G f n m₁ e₁) (h₂ : ES G f n m₂ e₂) (h₃ : ES G f n m₃ e₃)
    (hx : ∀ env, eval (.Compare e₁ [o₁, o₂] [e₂, e₃] pos) env = (do
      let a ← eval e₁ env; let rv ← holding [a] (eval e₂ env); standAt pos; let c ← holding [a, rv] (compareOp o₁ a rv); release [a, rv] [c]
      if ← holding [c, rv] (PySem.truthy c) then (do let sv ← holding [rv] (eval e₃ env); standAt pos; operate [rv, sv] (compareOp o₂ rv sv)) else pure c) := by intro _; with_unfolding_all rfl) :
    ES G f n (xcmp2 c d m₁ m₂ m₃) (.Compare e₁ [o₁, o₂] [e₂, e₃] pos) := by
  intro A L φ η loc s k hA S h
  rw [hx]
  refine wpAny_bind (h₁.then (β := Unit) hA S h fun u v η1 φ1 s1 hk hv st S1 => wpAny_bind (wpAny_holding ?_))
  refine h₂.then (β := Unit) hA S1 hk fun u2 v2 η2 φ2 s2 hk2 hv2 st2 S2 => wpAny_bind (wpAny_standAt (wpAny_bind (wpAny_holding ?_)))
  obtain ⟨i, rfl, hk3⟩ := asInt_of hk2
  obtain ⟨j, rfl, hk4⟩ := asInt_of hk3
  obtain ⟨t, rfl⟩ := VR.int hv
  obtain ⟨t2, rfl⟩ := VR.int hv2
  refine ho.at_ _ _ _ _ _ _ _ (wpAny_bind (wp_rel (wpAny_bind (wpAny_holding (wpAny_truthy_bool ?_)))))
  have st3 := st.trans st2 S.hr S1.hr
  cases hc : c i j with
  | false =>
    rw [hc] at hk4
    exact wpAny_pure (Post.from st3 S.hr S2.hr (Post.tick (tk := s2.toks) S2.hr hk4 rfl))
  | true =>
    rw [hc] at hk4
    refine wpAny_bind (wpAny_holding (h₃.then (β := Unit) hA S2 hk4 fun u3 v3 η3 φ3 s3 hk5 hv3 st4 S3 => wpAny_bind (wpAny_standAt ?_)))
    obtain ⟨r, rfl, hk6⟩ := asInt_of hk5
    obtain ⟨t3, rfl⟩ := VR.int hv3
    refine wpAny_operating (ho2.at_ _ _ _ _ _ _ _ ?_)
    exact Post.from (st3.trans st4 S.hr S2.hr) S.hr S3.hr (Post.tick (tk := s3.toks) S3.hr hk6 rfl)
theorem ts_cmp2 {c d : Cm} {o₁ o₂ : CmpOp} {m₁ m₂ m₃ : XE} {e₁ e₂ e₃ : Expr} {pos : Pos} (ho : CmOk G c o₁) (ho2 : CmOk G d o₂) (h₁ : ES G f n m₁ e₁) (h₂ : ES G f n m₂ e₂) (h₃ : ES G f n m₃ e₃)
    (hx : ∀ env w, isTrue (.Compare e₁ [o₁, o₂] [e₂, e₃] pos) env w = (do
      let a ← eval e₁ env; let rv ← holding [a] (eval e₂ env); standAt pos; let c ← holding [a, rv] (compareOp o₁ a rv); release [a, rv] [c]
      if ← holding [c, rv] (PySem.truthy c) then (do let sv ← holding [rv] (eval e₃ env); standAt pos; let c ← operate [rv, sv] (compareOp o₂ rv sv); holding [c] (PySem.truthy c)) else pure false) := by intro _ _; with_unfolding_all rfl) :
    TS G f n (xcmp2 c d m₁ m₂ m₃) (.Compare e₁ [o₁, o₂] [e₂, e₃] pos) := by
  intro A L φ η loc s k hA S h
  rw [hx]
  refine wpAny_bind (h₁.then (β := Unit) hA S h fun u v η1 φ1 s1 hk hv st S1 => wpAny_bind (wpAny_holding ?_))
  refine h₂.then (β := Unit) hA S1 hk fun u2 v2 η2 φ2 s2 hk2 hv2 st2 S2 => wpAny_bind (wpAny_standAt (wpAny_bind (wpAny_holding ?_)))
  obtain ⟨i, rfl, hk3⟩ := asInt_of hk2
  obtain ⟨j, rfl, hk4⟩ := asInt_of hk3
  obtain ⟨t, rfl⟩ := VR.int hv
  obtain ⟨t2, rfl⟩ := VR.int hv2
  refine ho.at_ _ _ _ _ _ _ _ (wpAny_bind (wp_rel (wpAny_bind (wpAny_holding (wpAny_truthy_bool ?_)))))
  have st3 := st.trans st2 S.hr S1.hr
  cases hc : c i j with
  | false =>
    rw [hc] at hk4
    exact wpAny_pure (PostB.from st3 S.hr S2.hr (PostB.tick (tk := s2.toks) S2.hr hk4))
  | true =>
    rw [hc] at hk4
    refine wpAny_bind (wpAny_holding (h₃.then (β := Unit) hA S2 hk4 fun u3 v3 η3 φ3 s3 hk5 hv3 st4 S3 => wpAny_bind (wpAny_standAt ?_)))
    obtain ⟨r, rfl, hk6⟩ := asInt_of hk5
    obtain ⟨t3, rfl⟩ := VR.int hv3
    refine wpAny_bind (wpAny_operating (ho2.at_ _ _ _ _ _ _ _ (wpAny_holding (wpAny_truthy_bool ?_))))
    exact PostB.from (st3.trans st4 S.hr S2.hr) S.hr S3.hr (PostB.tick (tk := s3.toks) S3.hr hk6)
end
end Kp
end
-- part KpExpr2
section
set_option autoImplicit false
namespace Kp
open PySem PySem.W PyProof.Rows PySem.Calls

theorem getT_eq (η : H) (n : Nat) : getT η n = η.t.get n := rfl
theorem VR.handed {φ : Phi} {h : Heap} {v : V} {u : Value} (r : VR φ h v u) : handedIn u = true := by
  cases v with
  | unb => exact r.elim
  | none => rw [show u = .none from r]; rfl
  | bool b => rw [show u = .bool b from r]; rfl
  | int i => obtain ⟨t, rfl⟩ := VR.int r; rfl
  | ref n => obtain ⟨a, d, _, rfl⟩ := r; rfl
  | tup xs => obtain ⟨a, us, rfl, _⟩ := r; rfl
  | range a b c => obtain ⟨r, t, x, y, rfl, _⟩ := r; rfl

noncomputable def intsOf : List V → List Int
  | [] => []
  | .int i :: r => i :: intsOf r
  | _ :: r => intsOf r
theorem allInts_cons {x : V} {xs : List V} (h : allInts (x :: xs) = true) : ∃ i, x = .int i ∧ allInts xs = true := by
  have h : asInt x (fun _ => allInts xs) = true := h
  obtain ⟨i, rfl, h⟩ := asInt_of h
  exact ⟨i, rfl, h⟩
theorem allInts_eq : ∀ {xs : List V}, allInts xs = true → xs = (intsOf xs).map V.int
  | [], _ => rfl
  | x :: xs, h => by
    obtain ⟨i, rfl, h1⟩ := allInts_cons h
    show V.int i :: xs = V.int i :: (intsOf xs).map V.int
    rw [← allInts_eq h1]
theorem intsAre_of {φ : Phi} {h : Heap} : ∀ {xs : List V} {us : List Value}, VsR φ h xs us → allInts xs = true → IntsAre us (intsOf xs)
  | [], us, r, _ => by rw [show us = [] from r]; exact .nil
  | x :: xs, us, ⟨u, r, e, a, b⟩, q => by
    subst e
    obtain ⟨i, rfl, h1⟩ := allInts_cons q
    obtain ⟨t, rfl⟩ := VR.int a
    exact .cons i t (intsAre_of b h1)
theorem memInts_of (i : Int) : ∀ (xs : List V) (k : Bool → Bool), memInts i xs k = true → allInts xs = true ∧ k ((intsOf xs).any (· == i)) = true
  | [], k, h => ⟨rfl, h⟩
  | x :: xs, k, h => by
    -- the recursor's own list is the whole one: one step at a time
    have step : ∀ (ys : List V) (w : List V), (@List.rec V (fun _ => (Bool → Bool) → Bool) (fun k => k false) (fun x _ ih k => asInt x fun j => bcase (ieq j i) (bcase (allInts w) (k true) false) (ih k)) ys k = true) →
        (allInts ys = true ∧ k ((intsOf ys).any (· == i)) = true ∧ (intsOf ys).any (· == i) = false) ∨ (allInts w = true ∧ k true = true ∧ ∃ a b, ys = a ++ V.int i :: b ∧ allInts a = true ∧ (intsOf a).any (· == i) = false) := by
      intro ys w
      induction ys with
      | nil => intro h; exact .inl ⟨rfl, h, rfl⟩
      | cons y ys ih =>
        intro h
        have h : asInt y (fun j => bcase (ieq j i) (bcase (allInts w) (k true) false) (@List.rec V (fun _ => (Bool → Bool) → Bool) (fun k => k false) (fun x _ ih k => asInt x fun j => bcase (ieq j i) (bcase (allInts w) (k true) false) (ih k)) ys k)) = true := h
        obtain ⟨j, rfl, h1⟩ := asInt_of h
        rw [ieq_eq] at h1
        cases q : j == i with
        | true =>
          rw [q] at h1
          obtain ⟨h2, h3⟩ := bc_of h1
          refine .inr ⟨h2, h3, [], ys, ?_, rfl, rfl⟩
          rw [eq_of_beq q]; rfl
        | false =>
          rw [q] at h1
          rcases ih h1 with ⟨a, b, c⟩ | ⟨a, b, l, r, e, c, d⟩
          · refine .inl ⟨?_, ?_, ?_⟩
            · exact a
            · show k ((j :: intsOf ys).any (· == i)) = true
              rw [List.any_cons, q, Bool.false_or]; exact b
            · show (j :: intsOf ys).any (· == i) = false
              rw [List.any_cons, q, Bool.false_or]; exact c
          · refine .inr ⟨a, b, V.int j :: l, r, by rw [e]; rfl, c, ?_⟩
            show (j :: intsOf l).any (· == i) = false
            rw [List.any_cons, q, Bool.false_or]; exact d
    rcases step (x :: xs) (x :: xs) h with ⟨a, b, _⟩ | ⟨a, b, l, r, e, c, d⟩
    · exact ⟨a, b⟩
    · refine ⟨a, ?_⟩
      have : (intsOf (x :: xs)).any (· == i) = true := by
        rw [e]
        clear e a
        induction l with
        | nil => show (i :: intsOf r).any (· == i) = true; simp
        | cons y l ih =>
          obtain ⟨j, rfl, c1⟩ := allInts_cons c
          show (j :: intsOf (l ++ V.int i :: r)).any (· == i) = true
          rw [List.any_cons, ih c1, Bool.or_true]
          have d : (j :: intsOf l).any (· == i) = false := d
          rw [List.any_cons, Bool.or_eq_false_iff] at d
          exact d.2
      rw [this]; exact b

section
variable {G : Base} {f : Fx} {n : Nat}

-- and, or as tests
noncomputable def AT (G : Base) (f : Fx) (n : Nat) (op : BoolOp) (m : XE) (es : List Expr) : Prop :=
  ∀ A L φ η loc s k, Room A n → SR G f φ η L loc s → m loc η (fun v h => truthy v fun b => k b h) = true → wpAny G.M A (allTrue op es (f.env L)) (PostB G φ s k) NoE s
theorem at_one {op : BoolOp} {m : XE} {e : Expr} (h₁ : TS G f n m e) : AT G f n op m [e] := by
  intro A L φ η loc s k hA S h
  show wpAny _ _ (isTrue e (f.env L) (eval e (f.env L)) >>= fun b => match op, b with | .And, false => pure false | .Or, true => pure true | _, _ => allTrue op [] (f.env L)) _ _ _
  refine wpAny_bind (wpAny_mono (h₁ A L φ η loc s k hA S h) (fun b s' x => ?_) fun _ _ z => z)
  cases op <;> cases b <;> exact wpAny_pure x
theorem at_and {m₁ m₂ : XE} {e : Expr} {es : List Expr} (h₁ : TS G f n m₁ e) (h₂ : AT G f n .And m₂ es) : AT G f n .And (xand m₁ m₂) (e :: es) := by
  intro A L φ η loc s k hA S h
  show wpAny _ _ (isTrue e (f.env L) (eval e (f.env L)) >>= fun b => match BoolOp.And, b with | .And, false => pure false | .Or, true => pure true | _, _ => allTrue .And es (f.env L)) _ _ _
  have h' : m₁ loc η (fun v h => truthy v fun b => (fun b h => bcase b (m₂ loc h fun v h => truthy v fun b => k b h) (k false h)) b h) = true := by
    have e : (fun (va : V) (h : H) => truthy va fun t => bcase t (m₂ loc h fun v h => truthy v fun b => k b h) (truthy va fun b => k b h)) = fun v h => truthy v fun b => bcase b (m₂ loc h fun v h => truthy v fun b => k b h) (k false h) := by
      funext va h
      cases va <;> try rfl
      · rename_i b; cases b <;> rfl
      · rename_i i
        show bcase (bnt (ieq i (.ofNat 0))) _ (k (bnt (ieq i (.ofNat 0))) h) = bcase (bnt (ieq i (.ofNat 0))) _ (k false h)
        cases bnt (ieq i (.ofNat 0)) <;> rfl
    rw [← e]; exact h
  refine wpAny_bind (wpAny_mono (h₁ A L φ η loc s _ hA S h') (fun b s' x => ?_) fun _ _ z => z)
  obtain ⟨ζ, ψ, a, c, d⟩ := x
  cases b with
  | false => exact wpAny_pure ⟨ζ, ψ, a, c, d⟩
  | true => exact wpAny_mono (h₂ A L ψ ζ loc s' k hA (S.step c d) a) (fun b s'' y => PostB.from c S.hr d y) fun _ _ z => z
theorem at_or {m₁ m₂ : XE} {e : Expr} {es : List Expr} (h₁ : TS G f n m₁ e) (h₂ : AT G f n .Or m₂ es) : AT G f n .Or (xor m₁ m₂) (e :: es) := by
  intro A L φ η loc s k hA S h
  show wpAny _ _ (isTrue e (f.env L) (eval e (f.env L)) >>= fun b => match BoolOp.Or, b with | .And, false => pure false | .Or, true => pure true | _, _ => allTrue .Or es (f.env L)) _ _ _
  have h' : m₁ loc η (fun v h => truthy v fun b => (fun b h => bcase b (k true h) (m₂ loc h fun v h => truthy v fun b => k b h)) b h) = true := by
    have e : (fun (va : V) (h : H) => truthy va fun t => bcase t (truthy va fun b => k b h) (m₂ loc h fun v h => truthy v fun b => k b h)) = fun v h => truthy v fun b => bcase b (k true h) (m₂ loc h fun v h => truthy v fun b => k b h) := by
      funext va h
      cases va <;> try rfl
      · rename_i b; cases b <;> rfl
      · rename_i i
        show bcase (bnt (ieq i (.ofNat 0))) (k (bnt (ieq i (.ofNat 0))) h) _ = bcase (bnt (ieq i (.ofNat 0))) (k true h) _
        cases bnt (ieq i (.ofNat 0)) <;> rfl
    rw [← e]; exact h
  refine wpAny_bind (wpAny_mono (h₁ A L φ η loc s _ hA S h') (fun b s' x => ?_) fun _ _ z => z)
  obtain ⟨ζ, ψ, a, c, d⟩ := x
  cases b with
  | true => exact wpAny_pure ⟨ζ, ψ, a, c, d⟩
  | false => exact wpAny_mono (h₂ A L ψ ζ loc s' k hA (S.step c d) a) (fun b s'' y => PostB.from c S.hr d y) fun _ _ z => z
theorem ts_bool {op : BoolOp} {m : XE} {es : List Expr} {pos : Pos} (h₁ : AT G f n op m es) : TS G f n m (.BoolOp op es pos) := h₁

-- and, or as values
noncomputable def BV (G : Base) (f : Fx) (n : Nat) (op : BoolOp) (m : XE) (es : List Expr) : Prop :=
  ∀ pos A L φ η loc s k, Room A n → SR G f φ η L loc s → m loc η k = true → wpAny G.M A (boolOp pos op (evalEach es (f.env L))) (Post G φ s k) NoE s
theorem bv_one {op : BoolOp} {m : XE} {e : Expr} (h₁ : ES G f n m e) : BV G f n op m [e] := fun _ A L φ η loc s k hA S h => h₁ A L φ η loc s k hA S h
theorem bv_and {m₁ m₂ : XE} {e e' : Expr} {es : List Expr} (h₁ : ES G f n m₁ e) (h₂ : BV G f n .And m₂ (e' :: es)) : BV G f n .And (xand m₁ m₂) (e :: e' :: es) := by
  intro pos A L φ η loc s k hA S h
  show wpAny _ _ (eval e (f.env L) >>= fun v => standAt pos >>= fun _ => holding [v] (PySem.truthy v) >>= fun t => match BoolOp.And, t with | .And, false | .Or, true => pure v | _, _ => boolOp pos .And (evalEach (e' :: es) (f.env L))) _ _ _
  refine wpAny_bind (h₁.then (β := Unit) hA S h fun u v η1 φ1 s1 hk hv st S1 => wpAny_bind (wpAny_standAt (wpAny_bind (wpAny_holding ?_))))
  obtain ⟨b, hb, y⟩ := truthy_of hk
  refine wp_truthy hv y ?_
  cases b with
  | false => exact wpAny_pure (Post.from st S.hr S1.hr (Post.tick (tk := s1.toks) S1.hr hb hv))
  | true => exact wpAny_mono (h₂ pos A L φ1 η1 loc s1 k hA S1 hb) (fun b s'' y => Post.from st S.hr S1.hr y) fun _ _ z => z
theorem bv_or {m₁ m₂ : XE} {e e' : Expr} {es : List Expr} (h₁ : ES G f n m₁ e) (h₂ : BV G f n .Or m₂ (e' :: es)) : BV G f n .Or (xor m₁ m₂) (e :: e' :: es) := by
  intro pos A L φ η loc s k hA S h
  show wpAny _ _ (eval e (f.env L) >>= fun v => standAt pos >>= fun _ => holding [v] (PySem.truthy v) >>= fun t => match BoolOp.Or, t with | .And, false | .Or, true => pure v | _, _ => boolOp pos .Or (evalEach (e' :: es) (f.env L))) _ _ _
  refine wpAny_bind (h₁.then (β := Unit) hA S h fun u v η1 φ1 s1 hk hv st S1 => wpAny_bind (wpAny_standAt (wpAny_bind (wpAny_holding ?_))))
  obtain ⟨b, hb, y⟩ := truthy_of hk
  refine wp_truthy hv y ?_
  cases b with
  | true => exact wpAny_pure (Post.from st S.hr S1.hr (Post.tick (tk := s1.toks) S1.hr hb hv))
  | false => exact wpAny_mono (h₂ pos A L φ1 η1 loc s1 k hA S1 hb) (fun b s'' y => Post.from st S.hr S1.hr y) fun _ _ z => z
theorem es_boolv {op : BoolOp} {m : XE} {es : List Expr} {pos : Pos} (h₁ : BV G f n op m es) : ES G f n m (.BoolOp op es pos) := fun A L φ η loc s k hA S h => h₁ pos A L φ η loc s k hA S h

-- an field of the record
theorem HR.inst {φ : Phi} {η : H} {h : Heap} (r : HR G φ η h) {i : Nat} {a d : Addr} {fs : List V} (e : φ[i]? = some (a, d)) (o : η.t.get i = .inst fs) :
    ∃ es n, PySem.W.InstAt h a (instObj G.C d) G.C (some (dictOf es n)) ∧ FieldsR φ h fs es := by
  have x := r.obj i a d e
  rw [o] at x
  obtain ⟨ha, es, n, hd, hf⟩ := x
  exact ⟨es, n, ⟨ha, rfl, rfl, hd⟩, hf⟩
theorem es_attr {m : XE} {e : Expr} {i : Nat} {nm : Str} {pos : Pos} (hn : fieldNames[i]? = some nm) (h₁ : ES G f n m e)
    (he : ∀ env, eval (.Attribute e nm pos) env = (do
      let o ← eval e env
      standAt pos.atName
      let r ← holding [o] (getAttr o nm true)
      letTemporaryGo e o r
      pure r) := by intro _; with_unfolding_all rfl) : ES G f n (xattr m i) (.Attribute e nm pos) := by
  intro A L φ η loc s k hA S h
  refine Attribute_any_ (he := he _) (h₁.then (β := Unit) hA S h fun u v η1 φ1 s1 hk hv st S1 => ?_)
  obtain ⟨j, rfl, hk1⟩ := asRef_of hk
  obtain ⟨a, d, ej, rfl⟩ := hv
  rw [getT_eq] at hk1
  rcases obj_of hk1 with ⟨xs, _, q⟩ | ⟨ep, kvs, _, q⟩ | ⟨fs, eo, q⟩
  · cases q
  · cases q
  · obtain ⟨hu, hk2⟩ := known_of q
    obtain ⟨es, nn, I, F⟩ := S1.hr.inst ej eo
    obtain ⟨w, hw, hr⟩ := F.get i nm hn hu
    have mem := List.mem_of_getElem? hn
    obtain ⟨attr, ha, hg⟩ := G.cfind nm mem
    exact get_value (prog := G.prog) (w := G.w) (fun b o e => S1.hr.keep b o (G.X b o e)) I (plainGet_of (G.cget nm mem)).1 (findObj_own G.cdict ha hg hw) hr.handed
      (Post.from st S.hr S1.hr (Post.tick S1.hr hk2 hr))

-- an item
theorem nth_of {xs : List V} {i : Int} {k : V → Bool} (h : nth xs i k = true) : ∃ j : Nat, i = .ofNat j ∧ j ≤ 1000000 ∧ xs[j]? = some (getV xs j) ∧ k (getV xs j) = true := by
  cases i with
  | negSucc j => cases h
  | ofNat j =>
    have h : bcase (Nat.ble j 1000000) (known (getV xs j) k) false = true := h
    obtain ⟨h1, h2⟩ := bc_of h
    obtain ⟨h3, h4⟩ := known_of h2
    exact ⟨j, rfl, Nat.le_of_ble_eq_true h1, getV_some h3, h4⟩
theorem HR.list {φ : Phi} {η : H} {h : Heap} (r : HR G φ η h) {i : Nat} {a d : Addr} {xs : List V} (e : φ[i]? = some (a, d)) (o : η.t.get i = .list xs) :
    a = d ∧ ∃ us, PlainL h d (List.toArray us) ∧ VsR φ h xs us := by
  have x := r.obj i a d e
  rw [o] at x; exact x
theorem HR.dict {φ : Phi} {η : H} {h : Heap} (r : HR G φ η h) {i : Nat} {a d : Addr} {ep : Nat} {kvs : List (V × V)} (e : φ[i]? = some (a, d)) (o : η.t.get i = .dict ep kvs) :
    a = d ∧ ∃ xs, h.get? d = some { cls := .type "dict", data := .dict (List.toArray (xs.map (entryOfKey G.knd))) ep } ∧ (xs.map (·.1)).Nodup ∧ DR G φ h kvs xs := by
  have x := r.obj i a d e
  rw [o] at x; exact x
theorem itemsAre_of {φ : Phi} {h : Heap} : ∀ {xs : List V} {us : List Value}, VsR φ h xs us → allInts xs = true → ItemsAre (intKind G.prog G.w) (intsOf xs) us
  | [], us, r, _ => by rw [show us = [] from r]; exact .nil
  | x :: xs, us, ⟨u, r, e, a, b⟩, q => by
    subst e
    obtain ⟨i, rfl, h1⟩ := allInts_cons q
    obtain ⟨t, rfl⟩ := VR.int a
    exact .cons (intKind_is G.prog G.w i t) (itemsAre_of b h1)
theorem tupKey_of {φ : Phi} {h : Heap} {q : List V} {u : Value} (r : VR φ h (.tup q) u) (a : allInts q = true) : ∃ t, u = .ref t ∧ G.knd.is h (intsOf q) t := by
  obtain ⟨t, us, rfl, ⟨o, ho, hc, n, hd⟩, hv⟩ := r
  exact ⟨t, rfl, o, _, n, ho, hc, hd, itemsAre_of hv a⟩
theorem DR.is {φ : Phi} {h : Heap} : ∀ {kvs : List (V × V)} {xs : List (List Int × Addr × Value)}, DR G φ h kvs xs → ∀ x ∈ xs, G.knd.is h x.1 x.2.1
  | [], _, r, x, hx => by rw [show _ = [] from r] at hx; cases hx
  | _ :: _, _, ⟨q, y, s, e, _, k, _, r⟩, x, hx => by
    subst e
    rcases List.mem_cons.mp hx with rfl | hx
    · exact k
    · exact DR.is r x hx
theorem DR.ofH {φ : Phi} {h : Heap} {d : Addr} {ep : Nat} {kvs : List (V × V)} {xs : List (List Int × Addr × Value)} (o : h.get? d = some { cls := .type "dict", data := .dict (List.toArray (xs.map (entryOfKey G.knd))) ep }) (n : (xs.map (·.1)).Nodup)
    (r : DR G φ h kvs xs) : h.DictOfH G.knd d xs := ⟨_, _, ep, o, ⟨rfl, rfl, rfl⟩, rfl, rfl, r.is, n⟩
theorem keyEq_of : ∀ {xs ys : List V}, keyEq xs ys = true → allInts ys = true → intsOf xs = intsOf ys ∧ allInts xs = true
  | [], [], _, _ => ⟨rfl, rfl⟩
  | [], _ :: _, h, _ => by cases h
  | _ :: _, [], h, _ => by cases h
  | x :: xs, y :: ys, h, a => by
    have h : asInt x (fun a => asInt y fun b => bcase (ieq a b) (keyEq xs ys) false) = true := h
    obtain ⟨i, rfl, h1⟩ := asInt_of h
    obtain ⟨j, rfl, h2⟩ := asInt_of h1
    obtain ⟨h3, h4⟩ := bc_of h2
    rw [ieq_eq] at h3
    have e := eq_of_beq h3
    subst e
    obtain ⟨_, _, a'⟩ := allInts_cons a
    obtain ⟨p, q⟩ := keyEq_of h4 a'
    exact ⟨by show i :: intsOf xs = i :: intsOf ys; rw [p], q⟩
theorem keyEq_map (a b : List Int) : keyEq (a.map V.int) (b.map V.int) = decide (a = b) := by
  induction a generalizing b with
  | nil => cases b <;> simp <;> rfl
  | cons x a ih =>
    cases b with
    | nil => simp; rfl
    | cons y b =>
      show bcase (ieq x y) (keyEq (a.map V.int) (b.map V.int)) false = _
      rw [ieq_eq, ih]
      by_cases h : x = y
      · subst h; simp [bcase]
      · have : (x == y) = false := by simpa using h
        rw [this]; simp [bcase, h]
-- what the search finds
theorem dfind_of {φ : Phi} {h : Heap} {key : List V} (ka : allInts key = true) {no : Bool} {k : Nat → V → Bool} : ∀ {kvs : List (V × V)} {xs : List (List Int × Addr × Value)} {n : Nat}, DR G φ h kvs xs → dfind key kvs no n k = true →
    (atKey xs (intsOf key) = none ∧ no = true) ∨ ∃ j a v u, xs[j]? = some (intsOf key, a, u) ∧ (kvs[j]?).map (·.2) = some v ∧ VR φ h v u ∧ k (n + j) v = true
  | [], xs, n, r, q => by
    rw [show xs = [] from r]
    exact .inl ⟨rfl, q⟩
  | p :: kvs, xs, n, ⟨ks, y, s, e, pk, ki, kv, r⟩, q => by
    subst e
    obtain ⟨p1, p2⟩ := p
    dsimp only at pk kv
    subst pk
    have q : bcase (keyEq (ks.map V.int) key) (k n p2) (dfind key kvs no (Nat.succ n) k) = true := q
    have eq1 : keyEq (ks.map V.int) key = decide (ks = intsOf key) := by
      conv => lhs; rw [allInts_eq ka]
      exact keyEq_map _ _
    rw [eq1] at q
    by_cases c : ks = intsOf key
    · rw [decide_eq_true c] at q
      refine .inr ⟨0, y.1, p2, y.2, ?_, rfl, kv, q⟩
      rw [c]; rfl
    · rw [decide_eq_false c] at q
      rcases dfind_of ka r q with ⟨a, b⟩ | ⟨j, a, v, u, e1, e2, e3, e4⟩
      · refine .inl ⟨?_, b⟩
        unfold atKey
        rw [List.find?_cons, decide_eq_false c]
        exact a
      · refine .inr ⟨j + 1, a, v, u, ?_, ?_, e3, ?_⟩
        · simpa using e1
        · simpa using e2
        · have : n + (j + 1) = Nat.succ n + j := by (first | lia | omega)
          rw [this]; exact e4
theorem asKey_of {v : V} {k : List V → Bool} (h : asKey v k = true) : ∃ q, v = .tup q ∧ allInts q = true ∧ k q = true := by
  obtain ⟨q, rfl, h1⟩ := asTup_of h
  obtain ⟨h2, h3⟩ := bc_of h1
  exact ⟨q, rfl, h2, h3⟩
theorem HR.notMod {φ : Phi} {η : H} {h : Heap} (r : HR G φ η h) {i : Nat} {a d : Addr} (e : φ[i]? = some (a, d)) : (d == sysModules) = false := by
  exact beq_eq_false_iff_ne.mpr (Nat.ne_of_gt (r.above (a, d) (List.mem_of_getElem? e)).2)

theorem es_sub {m₁ m₂ : XE} {e₁ e₂ : Expr} {pos : Pos} (h₁ : ES G f n m₁ e₁) (h₂ : ES G f n m₂ e₂)
    (hs : ∀ o i, subscripted e₂ false o i = operate [o, i] (getItem o i) := by intro _ _; with_unfolding_all rfl) : ES G f n (xsub m₁ m₂) (.Subscript e₁ e₂ pos) := by
  intro A L φ η loc s k hA S h
  refine Subscript_ (h₁.then (β := Unit) hA S h fun u v η1 φ1 s1 hk hv st S1 => ?_)
  refine h₂.then (β := Unit) hA S1 hk fun u2 v2 η2 φ2 s2 hk2 hv2 st2 S2 => ?_
  have hv := hv.st st2.pre (S1.st st2)
  have st3 := st.trans st2 S.hr S1.hr
  cases v with
  | ref j =>
    obtain ⟨a, d, ej, rfl⟩ := hv
    have hk2 : objCase (getT η2 j) (fun xs => asInt v2 fun j => nth xs j fun v => k v η2) (fun _ kvs => asKey v2 fun q => dfind q kvs false 0 fun _ v => k v η2) (fun _ => false) = true := (sub_so (getS η2 j) v2 (fun v => k v η2) (fun _ kvs => asKey v2 fun q => dfind q kvs false 0 fun _ v => k v η2) (fun _ => false)).symm.trans hk2
    rw [getT_eq] at hk2
    rcases obj_of hk2 with ⟨xs, eo, q⟩ | ⟨ep, kvs, eo, q⟩ | ⟨fs, eo, q⟩
    · obtain ⟨i, rfl, q1⟩ := asInt_of q
      obtain ⟨jj, rfl, hb, hg, q2⟩ := nth_of q1
      obtain ⟨t, rfl⟩ := VR.int hv2
      obtain ⟨rfl, us, hl, hu⟩ := S2.hr.list ej eo
      obtain ⟨x, hx, hr⟩ := hu.get hg
      refine tail_any hl.isList.typeIs slot_list_getitem.lookup (wpAny_getItem_list hl.isList (by simp) (by show (jj : Int) < 2 ^ 63; (first | lia | omega)) (by simpa using hx) ?_) (hs _ _)
      exact Post.from st3 S.hr S2.hr (Post.tick (tk := s2.toks) S2.hr q2 hr)
    · obtain ⟨key, rfl, ka, q1⟩ := asKey_of q
      obtain ⟨t, rfl, hk⟩ := tupKey_of (G := G) hv2 ka
      obtain ⟨rfl, xs, ho, hn, hd⟩ := S2.hr.dict ej eo
      have D := hd.ofH ho hn
      rcases dfind_of ka hd q1 with ⟨_, c⟩ | ⟨jj, b, v, x, e1, _, hr, q2⟩
      · cases c
      · refine tail_any D.typeIs slot_dict_getitem.lookup (wpAny_getItem_heap (tupleKind_room_in1 (by have := hA.units; (first | lia | omega))) hk D (atKey_of_get hn e1) ?_) (hs _ _)
        exact Post.from st3 S.hr S2.hr (Post.tick S2.hr q2 hr)
    · cases q
  | tup xs =>
    obtain ⟨t, us, rfl, ht, hu⟩ := hv
    have hk2 : asInt v2 (fun j => nth xs j fun v => k v η2) = true := hk2
    obtain ⟨i, rfl, q1⟩ := asInt_of hk2
    obtain ⟨jj, rfl, hb, hg, q2⟩ := nth_of q1
    obtain ⟨t2, rfl⟩ := VR.int hv2
    obtain ⟨x, hx, hr⟩ := hu.get hg
    refine item_tupleT (j := jj) ht (by show -(2 ^ 63) ≤ (jj : Int); (first | lia | omega)) (by show (jj : Int) < 2 ^ 63; (first | lia | omega)) ?_ hx ?_ (hs _ _)
    · have hlt : jj < us.length := (List.getElem?_eq_some_iff.mp hx).1
      have h0 : ¬ ((jj : Int) < 0) := by (first | lia | omega)
      unfold seqIndex?
      simp [h0, hlt]
    · exact Post.from st3 S.hr S2.hr (Post.tick (tk := s2.toks) S2.hr q2 hr)
  | _ => cases hk2
end
end Kp
end
-- part KpExpr3
section
set_option autoImplicit false
set_option linter.unusedVariables false
namespace Kp
open PySem PySem.W PyProof.Rows PySem.Calls

section
variable {G : Base} {f : Fx} {n : Nat}

theorem SR.big {φ : Phi} {η : H} {L : Addr} {loc : Loc} {s : Shared} (S : SR G f φ η L loc s) : G.h₀.objs.size < s.heap.objs.size := by
  obtain ⟨m, ns, -⟩ := S.fr
  exact Nat.lt_of_le_of_lt S.above ns.lt

-- a built-in's name
theorem name_b {x : Str} {pos : Pos} {v : Value} {A : Around} {L : Addr} {φ : Phi} {η : H} {loc : Loc} {s : Shared} {Q : Value → Shared → Prop} (ok : f.Ok) (hx : f.cs.names.lookup x = some .globalImplicit)
    (hb : x = "len" ∨ x = "abs" ∨ x = "min" ∨ x = "range") (hv : bootBuiltins x = some v) (hd : (x == ("__debug__" : Str)) = false) (S : SR G f φ η L loc s) (h : Q v s) : wpAny G.M A (eval (.Name x pos) (f.env L)) Q NoE s := by
  obtain ⟨h1, h2⟩ := G.nob x hb
  exact Name_function_global (env := f.env L) ok.kind hx (loadGlobal_builtin (env := f.env L) (G.g.keeps S.hr.keep) h1 (G.b.keeps S.hr.keep) (h2.trans hv) h) hd

-- arguments
noncomputable def PostL (G : Base) (φ : Phi) (s : Shared) (k : List V → H → Bool) (us : List Value) (s' : Shared) : Prop :=
  ∃ vs η' φ', k vs η' = true ∧ VsR φ' s'.heap vs us ∧ Step φ φ' s s' ∧ HR G φ' η' s'.heap
noncomputable def LS (G : Base) (f : Fx) (n : Nat) (m : XL) (es : List Expr) : Prop :=
  ∀ pos A L φ η loc s k, Room A n → SR G f φ η L loc s → m loc η k = true → wpAny G.M A (spliced (backTo pos (starEach es (f.env L)))) (PostL G φ s k) NoE s
theorem ls_nil : LS G f n enil [] := fun _ A L φ η loc s k hA S h => spliced_nil ⟨[], η, φ, h, rfl, Step.refl _ _, S.hr⟩
theorem ls_cons {m : XE} {r : XL} {e : Expr} {es : List Expr} (h₁ : ES G f n m e) (h₂ : LS G f n r es) (he : ∀ env, starEach (e :: es) env = (false, eval e env) :: starEach es env := by intro _; rfl) : LS G f n (econs m r) (e :: es) := by
  intro pos A L φ η loc s k hA S h
  rw [he]
  refine spliced_cons (h₁.then (β := Unit) hA S h fun u v η1 φ1 s1 hk hv st S1 => ?_)
  refine wpAny_mono (h₂ pos A L φ1 η1 loc s1 _ hA S1 hk) (fun us s2 x => ?_) fun _ _ z => z
  obtain ⟨vs, ζ, ψ, a, b, c, d⟩ := x
  exact ⟨v :: vs, ζ, ψ, a, ⟨u, us, rfl, hv.st c.pre (S1.st c), b⟩, st.trans c S.hr S1.hr, d⟩

-- a function, told by what its combinator answers
noncomputable def FS (G : Base) (n : Nat) (fn : Fn) (a : Addr) : Prop :=
  ∀ A φ η s vs us k, Room A n → HR G φ η s.heap → G.h₀.objs.size ≤ s.heap.objs.size → VsR φ s.heap vs us → fn vs η k = true →
    codeAny G.M A (.call (.ref a) ⟨us, []⟩) (fun r s' => match r with | .ok (.ret u) => Post G φ s k u s' | .ok _ => False | .error _ => False) s
theorem FS.more {fn : Fn} {a : Addr} {n m : Nat} (x : FS G n fn a) (h : n ≤ m) : FS G m fn a := fun A φ η s vs us k hA => x A φ η s vs us k (hA.less h)
theorem FS.wp {fn : Fn} {a : Addr} (x : FS G n fn a) {A : Around} {φ : Phi} {η : H} {s : Shared} {vs : List V} {us : List Value} {k : V → H → Bool} (hA : Room A n) (r : HR G φ η s.heap) (z : G.h₀.objs.size ≤ s.heap.objs.size) (v : VsR φ s.heap vs us) (h : fn vs η k = true) :
    wpAny G.M A (call (.ref a) us) (Post G φ s k) NoE s :=
  wpAny_call (codeAny_mono (x A φ η s vs us k hA r z v h) fun r s' y => by
    rcases r with e | (u | _ | _ | _) <;> first | exact y | exact y.elim)
structure FnAt (G : Base) (x : Str) (a : Addr) : Prop where
  name : G.mg x = some (.ref a)
  obj : ∃ o fd, G.h₀.get? a = some o ∧ o.data = .func fd
theorem es_call {fn : Fn} {a : Addr} {m : XE} {r : XL} {x : Str} {e : Expr} {es : List Expr} {p pos : Pos} (ok : f.Ok) (hx : f.cs.names.lookup x = some .globalImplicit) (hd : (x == ("__debug__" : Str)) = false) (F : FnAt G x a) (hf : FS G n fn a) (h₁ : LS G f n (econs m r) (e :: es))
    (he : ∀ env, starEach (e :: es) env = (false, eval e env) :: starEach es env := by intro _; rfl) :
    ES G f n (xcall fn (econs m r)) (.Call (.Name x p) (e :: es) [] pos) := by
  intro A L φ η loc s k hA S h
  obtain ⟨o, fd, ho, hdat⟩ := F.obj
  refine wpAny_Call_NameR (Name_function_global (env := f.env L) ok.kind hx (loadGlobal_global (env := f.env L) (G.g.keeps S.hr.keep) F.name ?_) hd)
  refine callWith_function (o := o) (fd := fd) ?_
  have z := h₁ pos A L φ η loc s _ hA S h
  rw [he] at z ⊢
  refine evalArgs_plain (wpAny_mono z (fun us s' y => ?_) fun _ _ z => z)
  obtain ⟨vs, ζ, ψ, b, c, d, e'⟩ := y
  refine ⟨⟨e'.keep _ _ ho, hdat⟩, ?_⟩
  have S' := S.step d e'
  exact wpAny_mono (hf.wp hA e' (Nat.le_of_lt S'.big) c b) (fun u s'' y => Post.from d S.hr e' y) fun _ _ z => z

-- len, abs, min, range
theorem boot_len : bootBuiltins "len" = some (.builtin "len") := by decide +kernel
theorem boot_abs : bootBuiltins "abs" = some (.builtin "abs") := by decide +kernel
theorem boot_range : bootBuiltins "range" = some (.type "range") := by decide +kernel
theorem es_len {m : XE} {e : Expr} {p pos : Pos} (ok : f.Ok) (hx : f.cs.names.lookup ("len" : Str) = some .globalImplicit) (h₁ : ES G f n m e) (he : ∀ env, starEach [e] env = [(false, eval e env)] := by intro _; rfl) : ES G f n (xlen m) (.Call (.Name "len" p) [e] [] pos) := by
  intro A L φ η loc s k hA S h
  refine wpAny_Call_NameR (name_b ok hx (.inl rfl) boot_len (by decide) S (callWith_builtin (by rw [he]; rfl) ?_))
  rw [he]
  refine evalArgs_plain (spliced_cons (h₁.then (β := Unit) hA S h fun u v η1 φ1 s1 hk hv st S1 => spliced_nil ?_))
  obtain ⟨j, xs, rfl, eo, hk1⟩ := asList_of hk
  obtain ⟨hb, hk2⟩ := bc_of hk1
  obtain ⟨a, d, ej, rfl⟩ := hv
  obtain ⟨rfl, us, hl, hu⟩ := S1.hr.list ej eo
  have hlen := hu.length
  have hb : lenV xs ≤ 1000000 := Nat.le_of_ble_eq_true hb
  rw [lenV_eq] at hb hk2
  refine call_len_list hl.isList (by rw [List.size_toArray, hlen]; (first | lia | omega)) ?_
  rw [List.size_toArray, hlen]
  exact Post.from st S.hr S1.hr (Post.tick S1.hr hk2 ⟨_, rfl⟩)
theorem iabs_eq (i : Int) : iabs i = if i < 0 then -i else i := by
  cases i with
  | ofNat m => show Int.ofNat m = _; rw [if_neg (by simp)]
  | negSucc m => show Int.ofNat (m + 1) = _; rw [if_pos (by rw [Int.negSucc_eq]; (first | lia | omega)), Int.negSucc_eq]; simp
theorem es_abs {m : XE} {e : Expr} {p pos : Pos} (ok : f.Ok) (hx : f.cs.names.lookup ("abs" : Str) = some .globalImplicit) (h₁ : ES G f n m e) (he : ∀ env, starEach [e] env = [(false, eval e env)] := by intro _; rfl) : ES G f n (xabs m) (.Call (.Name "abs" p) [e] [] pos) := by
  intro A L φ η loc s k hA S h
  refine wpAny_Call_NameR (name_b ok hx (.inr (.inl rfl)) boot_abs (by decide) S (callWith_builtin (by rw [he]; rfl) ?_))
  rw [he]
  refine evalArgs_plain (spliced_cons (h₁.then (β := Unit) hA S h fun u v η1 φ1 s1 hk hv st S1 => spliced_nil ?_))
  obtain ⟨i, rfl, hk1⟩ := asInt_of hk
  obtain ⟨t, rfl⟩ := VR.int hv
  rw [iabs_eq] at hk1
  exact call_abs_int fun u tk => Post.from st S.hr S1.hr (Post.tick S1.hr hk1 ⟨_, rfl⟩)
theorem es_min {m₁ m₂ : XE} {e₁ e₂ : Expr} {p pos : Pos} (ok : f.Ok) (hx : f.cs.names.lookup ("min" : Str) = some .globalImplicit) (h₁ : ES G f n m₁ e₁) (h₂ : ES G f n m₂ e₂) (he : ∀ env, starEach [e₁, e₂] env = [(false, eval e₁ env), (false, eval e₂ env)] := by intro _; rfl) :
    ES G f n (xmin m₁ m₂) (.Call (.Name "min" p) [e₁, e₂] [] pos) := by
  intro A L φ η loc s k hA S h
  refine wpAny_Call_NameR (name_b ok hx (.inr (.inr (.inl rfl))) boot_min (by decide) S (callWith_builtin (by rw [he]; rfl) ?_))
  rw [he]
  refine evalArgs_plain (spliced_cons (h₁.then (β := Unit) hA S h fun u v η1 φ1 s1 hk hv st S1 => spliced_cons (h₂.then (β := Unit) hA S1 hk fun u2 v2 η2 φ2 s2 hk2 hv2 st2 S2 => spliced_nil ?_)))
  obtain ⟨i, rfl, hk3⟩ := asInt_of hk2
  obtain ⟨j, rfl, hk4⟩ := asInt_of hk3
  obtain ⟨t, rfl⟩ := VR.int hv
  obtain ⟨t2, rfl⟩ := VR.int hv2
  rw [ilt_eq] at hk4
  refine min_two_ints hA.handled fun h' tk kp => ?_
  have st3 := st.trans st2 S.hr S1.hr
  by_cases c : j < i
  · rw [decide_eq_true c] at hk4
    rw [if_pos c]
    exact Post.from st3 S.hr S2.hr (Post.mk S2.hr hk4 ⟨_, rfl⟩ kp)
  · rw [decide_eq_false c] at hk4
    rw [if_neg c]
    exact Post.from st3 S.hr S2.hr (Post.mk S2.hr hk4 ⟨_, rfl⟩ kp)
theorem small_neg {a b : Int} (ha : -(2 ^ 62) ≤ a) (ha' : a < 2 ^ 62) (hb : -(2 ^ 62) ≤ b) (hb' : b < 2 ^ 62) : Builtin.Range.small a b (-1) = true := by
  unfold Builtin.Range.small Builtin.Range.rangeSize
  simp only [Builtin.Range.rangeFitsLong, Bool.and_eq_true, Bool.or_eq_true, decide_eq_true_eq, beq_iff_eq, show ¬ ((-1 : Int) > 0) by decide, if_false, Int.neg_neg, Int.ediv_one]
  (repeat' split) <;> (first | lia | omega)
theorem small_pos {a b c : Int} (ha : -(2 ^ 62) ≤ a) (ha' : a < 2 ^ 62) (hb : -(2 ^ 62) ≤ b) (hb' : b < 2 ^ 62) (hc : 0 < c) (hc' : c ≤ 1000) : Builtin.Range.small a b c = true := by
  unfold Builtin.Range.small Builtin.Range.rangeSize
  rw [if_pos hc, if_pos hc]
  by_cases q : a < b
  · have h0 : 0 ≤ (b - a - 1) / c := Int.ediv_nonneg (by (first | lia | omega)) (by (first | lia | omega))
    have h1 : (b - a - 1) / c ≤ b - a - 1 := Int.ediv_le_self _ (by (first | lia | omega))
    rw [if_pos q]
    simp only [Builtin.Range.rangeFitsLong, Bool.and_eq_true, Bool.or_eq_true, decide_eq_true_eq, beq_iff_eq]
    generalize (b - a - 1) / c = z at h0 h1
    (first | lia | omega)
  · rw [if_neg q]
    simp only [Builtin.Range.rangeFitsLong, Bool.and_eq_true, Bool.or_eq_true, decide_eq_true_eq, beq_iff_eq]
    (first | lia | omega)
theorem stepOk_of {m : Int} (h : stepOk m = true) : (0 < m ∨ m = -1) ∧ -1 ≤ m ∧ m ≤ 1000 := by
  cases m with
  | ofNat n =>
    have h : bcase (Nat.ble 1 n) (Nat.ble n 1000) false = true := h
    obtain ⟨h1, h2⟩ := bc_of h
    have h1 := Nat.le_of_ble_eq_true h1
    have h2 := Nat.le_of_ble_eq_true h2
    simp only [Int.ofNat_eq_natCast]
    (first | lia | omega)
  | negSucc n =>
    have h : Nat.beq n 0 = true := h
    have := Nat.eq_of_beq_eq_true h
    subst this
    exact ⟨.inr rfl, by decide, by decide⟩
theorem es_range1 {m : XE} {e : Expr} {p pos : Pos} (ok : f.Ok) (hx : f.cs.names.lookup ("range" : Str) = some .globalImplicit) (h₁ : ES G f n m e) (he : ∀ env, starEach [e] env = [(false, eval e env)] := by intro _; rfl) : ES G f n (xrange1 m) (.Call (.Name "range" p) [e] [] pos) := by
  intro A L φ η loc s k hA S h
  refine wpAny_Call_NameR (name_b ok hx (.inr (.inr (.inr rfl))) boot_range (by decide) S (PyProof.Rows.callWith_type (by rw [he]; rfl) ?_))
  rw [he]
  refine evalArgs_plain (spliced_cons (h₁.then (β := Unit) hA S h fun u v η1 φ1 s1 hk hv st S1 => spliced_nil ?_))
  obtain ⟨i, rfl, hk1⟩ := asInt_of hk
  obtain ⟨t, rfl⟩ := VR.int hv
  obtain ⟨hk2, b1, b2⟩ := small_of hk1
  refine call_range_1 (Post.from st S.hr S1.hr (Post.mk S1.hr hk2 ?_ fun b o e => Heap.get?_push_of_some _ e))
  exact ⟨_, _, _, _, rfl, IsRange.new .., small_one (by decide) (by decide) (by (first | lia | omega)) (by (first | lia | omega)), .inl (by decide)⟩
theorem es_range2 {m₁ m₂ : XE} {e₁ e₂ : Expr} {p pos : Pos} (ok : f.Ok) (hx : f.cs.names.lookup ("range" : Str) = some .globalImplicit) (h₁ : ES G f n m₁ e₁) (h₂ : ES G f n m₂ e₂) (he : ∀ env, starEach [e₁, e₂] env = [(false, eval e₁ env), (false, eval e₂ env)] := by intro _; rfl) :
    ES G f n (xrange2 m₁ m₂) (.Call (.Name "range" p) [e₁, e₂] [] pos) := by
  intro A L φ η loc s k hA S h
  refine wpAny_Call_NameR (name_b ok hx (.inr (.inr (.inr rfl))) boot_range (by decide) S (PyProof.Rows.callWith_type (by rw [he]; rfl) ?_))
  rw [he]
  refine evalArgs_plain (spliced_cons (h₁.then (β := Unit) hA S h fun u v η1 φ1 s1 hk hv st S1 => spliced_cons (h₂.then (β := Unit) hA S1 hk fun u2 v2 η2 φ2 s2 hk2 hv2 st2 S2 => spliced_nil ?_)))
  obtain ⟨i, rfl, hk3⟩ := asInt_of hk2
  obtain ⟨j, rfl, hk4⟩ := asInt_of hk3
  obtain ⟨t, rfl⟩ := VR.int hv
  obtain ⟨t2, rfl⟩ := VR.int hv2
  obtain ⟨hk5, b1, b2⟩ := small_of hk4
  obtain ⟨hk6, b3, b4⟩ := small_of hk5
  refine call_range_2 (Post.from (st.trans st2 S.hr S1.hr) S.hr S2.hr (Post.mk S2.hr hk6 ?_ fun b o e => Heap.get?_push_of_some _ e))
  exact ⟨_, _, _, _, rfl, IsRange.new .., small_one (by (first | lia | omega)) (by (first | lia | omega)) (by (first | lia | omega)) (by (first | lia | omega)), .inl (by decide)⟩
theorem es_range3 {m₁ m₂ m₃ : XE} {e₁ e₂ e₃ : Expr} {p pos : Pos} (ok : f.Ok) (hx : f.cs.names.lookup ("range" : Str) = some .globalImplicit) (h₁ : ES G f n m₁ e₁) (h₂ : ES G f n m₂ e₂) (h₃ : ES G f n m₃ e₃)
    (he : ∀ env, starEach [e₁, e₂, e₃] env = [(false, eval e₁ env), (false, eval e₂ env), (false, eval e₃ env)] := by intro _; rfl) :
    ES G f n (xrange3 m₁ m₂ m₃) (.Call (.Name "range" p) [e₁, e₂, e₃] [] pos) := by
  intro A L φ η loc s k hA S h
  refine wpAny_Call_NameR (name_b ok hx (.inr (.inr (.inr rfl))) boot_range (by decide) S (PyProof.Rows.callWith_type (by rw [he]; rfl) ?_))
  rw [he]
  refine evalArgs_plain (spliced_cons (h₁.then (β := Unit) hA S h fun u v η1 φ1 s1 hk hv st S1 => spliced_cons (h₂.then (β := Unit) hA S1 hk fun u2 v2 η2 φ2 s2 hk2 hv2 st2 S2 => spliced_cons (h₃.then (β := Unit) hA S2 hk2 fun u3 v3 η3 φ3 s3 hk3 hv3 st3 S3 => spliced_nil ?_))))
  obtain ⟨i, rfl, hk4⟩ := asInt_of hk3
  obtain ⟨j, rfl, hk5⟩ := asInt_of hk4
  obtain ⟨c, rfl, hk6⟩ := asInt_of hk5
  obtain ⟨t, rfl⟩ := VR.int hv
  obtain ⟨t2, rfl⟩ := VR.int hv2
  obtain ⟨t3, rfl⟩ := VR.int hv3
  obtain ⟨hk7, b1, b2⟩ := small_of hk6
  obtain ⟨hk8, b3, b4⟩ := small_of hk7
  obtain ⟨q, hk9⟩ := bc_of hk8
  obtain ⟨q0, q1, q2⟩ := stepOk_of q
  refine call_range_3 (by (first | lia | omega)) (Post.from ((st.trans st2 S.hr S1.hr).trans st3 S.hr S2.hr) S.hr S3.hr (Post.mk S3.hr hk9 ?_ fun b o e => Heap.get?_push_of_some _ e)) (Or.inl (PyProof.noPylong_small (by (first | lia | omega))))
  refine ⟨_, _, _, _, rfl, IsRange.new .., ?_, q0⟩
  rcases q0 with q0 | rfl
  · exact small_pos (by (first | lia | omega)) (by (first | lia | omega)) (by (first | lia | omega)) (by (first | lia | omega)) q0 (by (first | lia | omega))
  · exact small_neg (by (first | lia | omega)) (by (first | lia | omega)) (by (first | lia | omega)) (by (first | lia | omega))

-- displays
theorem PlainL.new (h : Heap) (us : List Value) : PlainL (h.push { cls := .type "list", data := .seq (List.toArray us) }) h.objs.size (List.toArray us) := ⟨_, 0, Heap.get?_push_size _ rfl, rfl, rfl, rfl⟩
theorem no_at_size (h : Heap) : ∀ ob, h.get? h.objs.size ≠ some ob := fun ob e => absurd (Heap.lt_size e) (Nat.lt_irrefl _)
theorem size_ok {us : List Value} (h : us.length ≤ 1000000) : us.length ≤ sizeLine := by rw [sizeLine_eq]; (first | lia | omega)
-- a new list
theorem new_list {φ : Phi} {η : H} {s : Shared} {vs : List V} {us : List Value} {k : V → H → Bool} (r : HR G φ η s.heap) (z : G.h₀.objs.size ≤ s.heap.objs.size) (v : VsR φ s.heap vs us) (h : alloc (.list vs) η k = true) :
    Post G φ s k (.ref s.heap.objs.size) { s with heap := s.heap.push { cls := .type "list", data := .seq (List.toArray us) } } := by
  obtain ⟨t, m, rr⟩ := η
  have h : k (.ref m) ⟨t.put (.list vs) m, Nat.succ m, rr⟩ = true := h
  have kp : ∀ b ob, s.heap.get? b = some ob → (s.heap.push { cls := .type "list", data := .seq (List.toArray us) }).get? b = some ob := fun b o e => Heap.get?_push_of_some _ e
  refine ⟨_, _, φ ++ [(s.heap.objs.size, s.heap.objs.size)], h, ⟨s.heap.objs.size, s.heap.objs.size, ?_, rfl⟩, Step.alloc (no_at_size _) kp rfl rfl rfl, r.alloc z (no_at_size _) kp ⟨rfl, us, PlainL.new _ _, v.st (List.prefix_append _ _) fun b o e _ => kp b o e⟩⟩
  have e : φ.length = m := r.len
  rw [← e]; simp
theorem new_pk {φ : Phi} {η : H} {s : Shared} {p len : Nat} {us : List Value} {k : V → H → Bool} (r : HR G φ η s.heap) (z : G.h₀.objs.size ≤ s.heap.objs.size) (v : VsR φ s.heap (unpk len p) us) (h : allocS (.pk p len) η k = true) :
    Post G φ s k (.ref s.heap.objs.size) { s with heap := s.heap.push { cls := .type "list", data := .seq (List.toArray us) } } := by
  obtain ⟨t, m, rr⟩ := η
  have h : k (.ref m) ⟨t.putS (.pk p len) m, Nat.succ m, rr⟩ = true := h
  have kp : ∀ b ob, s.heap.get? b = some ob → (s.heap.push { cls := .type "list", data := .seq (List.toArray us) }).get? b = some ob := fun b o e => Heap.get?_push_of_some _ e
  have hr := r.alloc z (no_at_size _) kp (o := .list (unpk len p)) (a := s.heap.objs.size) ⟨rfl, us, PlainL.new _ _, v.st (List.prefix_append _ _) fun b o e _ => kp b o e⟩
  refine ⟨_, _, φ ++ [(s.heap.objs.size, s.heap.objs.size)], h, ⟨s.heap.objs.size, s.heap.objs.size, ?_, rfl⟩, Step.alloc (no_at_size _) kp rfl rfl rfl, hr.view (fun i => tget_same (.pk p len) t m i) rfl rfl⟩
  have e : φ.length = m := r.len
  rw [← e]; simp
theorem es_list {m : XL} {es : List Expr} {pos : Pos} (h₁ : LS G f n m es) : ES G f n (xlist m) (.List es pos) := by
  intro A L φ η loc s k hA S h
  refine List_ (wpAny_mono (h₁ pos A L φ η loc s _ hA S h) (fun us s' y => ?_) fun _ _ z => z)
  obtain ⟨vs, ζ, ψ, b, c, d, e⟩ := y
  obtain ⟨b1, b2⟩ := bc_of b
  rw [lenV_eq] at b1
  have b1 : vs.length ≤ 1000000 := Nat.le_of_ble_eq_true b1
  exact wpAny_newObj_type (Post.from d S.hr e (new_list e (Nat.le_of_lt (S.step d e).big) c b2)) (by show (List.toArray us).size ≤ sizeLine; rw [List.size_toArray]; exact size_ok (by rw [c.length]; exact b1))
theorem es_tup {m : XL} {es : List Expr} {j : Nat} {pos : Pos} (h₁ : LS G f n m es) : ES G f n (xtup m) (.Tuple es j pos) := by
  intro A L φ η loc s k hA S h
  refine Tuple_ (wpAny_mono (h₁ pos A L φ η loc s _ hA S h) (fun us s' y => ?_) fun _ _ z => z)
  obtain ⟨vs, ζ, ψ, b, c, d, e⟩ := y
  obtain ⟨b1, b2⟩ := bc_of b
  rw [lenV_eq] at b1
  have b1 : vs.length ≤ 1000000 := Nat.le_of_ble_eq_true b1
  have kp : ∀ b ob, s'.heap.get? b = some ob → (s'.heap.push { cls := .type "tuple", data := .seq (List.toArray us) }).get? b = some ob := fun b o e => Heap.get?_push_of_some _ e
  refine wpAny_newObj_type (Post.from d S.hr e (Post.mk e b2 ?_ kp)) (by show (List.toArray us).size ≤ sizeLine; rw [List.size_toArray]; exact size_ok (by rw [c.length]; exact b1))
  exact ⟨_, us, rfl, IsTup.new _ _, c.st (List.prefix_refl _) fun b o e _ => kp b o e⟩
theorem es_dict {pos : Pos} : ES G f n xdict (.Dict [] [] pos) := by
  intro A L φ η loc s k hA S h
  refine wpAny_Dict_empty ?_
  obtain ⟨t, m, rr⟩ := η
  have h : k (.ref m) ⟨t.put (.dict 0 []) m, Nat.succ m, rr⟩ = true := h
  have kp : ∀ b ob, s.heap.get? b = some ob → (s.heap.push { cls := .type "dict", data := .dict #[] }).get? b = some ob := fun b o e => Heap.get?_push_of_some _ e
  refine ⟨_, _, φ ++ [(s.heap.objs.size, s.heap.objs.size)], h, ⟨s.heap.objs.size, s.heap.objs.size, ?_, rfl⟩, Step.alloc (no_at_size _) kp rfl rfl rfl, S.hr.alloc (Nat.le_of_lt S.big) (no_at_size _) kp ⟨rfl, [], Heap.get?_push_size _ rfl, List.nodup_nil, rfl⟩⟩
  have e : φ.length = m := S.hr.len
  rw [← e]; simp
end
end Kp
end
-- part KpExpr4
section
set_option autoImplicit false
set_option linter.unusedVariables false
namespace Kp
open PySem PySem.W PyProof.Rows PySem.Calls

section
variable {G : Base} {f : Fx} {n : Nat}

-- in, not in: over a list of ints, over a dict by tuples
theorem in_of {A : Around} {φ : Phi} {η : H} {s : Shared} {v w : V} {u t : Value} {k : V → H → Bool} (hu : A.units + 1 < cLine) (r : HR G φ η s.heap) (hv : VR φ s.heap v u) (hw : VR φ s.heap w t)
    (h : asRef w (fun n => objCase (getT η n) (fun xs => asInt v fun i => memInts i xs fun r => k (.bool r) η) (fun _ kvs => asKey v fun q => dfind q kvs (k (.bool false) η) 0 fun _ _ => k (.bool true) η) (fun _ => false)) = true) :
    ∃ b : Bool, k (.bool b) η = true ∧ (∀ Q : Value → Shared → Prop, (∀ tk, Q (.bool b) { s with toks := tk }) → wpAny G.M A (compareOp .In u t) Q NoE s) ∧
      (∀ Q : Value → Shared → Prop, (∀ tk, Q (.bool (!b)) { s with toks := tk }) → wpAny G.M A (compareOp .NotIn u t) Q NoE s) := by
  obtain ⟨j, rfl, h1⟩ := asRef_of h
  obtain ⟨a, d, ej, rfl⟩ := hw
  rw [getT_eq] at h1
  rcases obj_of h1 with ⟨xs, eo, q⟩ | ⟨ep, kvs, eo, q⟩ | ⟨fs, eo, q⟩
  · obtain ⟨i, rfl, q1⟩ := asInt_of q
    obtain ⟨ai, q2⟩ := memInts_of _ _ _ q1
    obtain ⟨t2, rfl⟩ := VR.int hv
    obtain ⟨rfl, us, hl, hu⟩ := r.list ej eo
    exact ⟨_, q2, fun Q z => in_list_ints hl.isList (intsAre_of hu ai) (z s.toks), fun Q z => notin_list_ints hl.isList (intsAre_of hu ai) (z s.toks)⟩
  · obtain ⟨key, rfl, ka, q1⟩ := asKey_of q
    obtain ⟨t2, rfl, hk⟩ := tupKey_of (G := G) hv ka
    obtain ⟨rfl, xs, ho, hn, hd⟩ := r.dict ej eo
    have D := hd.ofH ho hn
    have nm := r.notMod ej
    rcases dfind_of ka hd q1 with ⟨b, c⟩ | ⟨jj, b, v, x, e1, _, hr, q2⟩
    · refine ⟨false, c, fun Q z => wpAny_in_heap (tupleKind_room_in1 hu) hk nm D ?_, fun Q z => wpAny_notIn_heap (tupleKind_room_in1 hu) hk nm D ?_⟩
      · rw [b]; exact z _
      · rw [b]; exact z _
    · refine ⟨true, q2, fun Q z => wpAny_in_heap (tupleKind_room_in1 hu) hk nm D ?_, fun Q z => wpAny_notIn_heap (tupleKind_room_in1 hu) hk nm D ?_⟩
      · rw [atKey_of_get hn e1]; exact z _
      · rw [atKey_of_get hn e1]; exact z _
  · cases q
theorem es_in {m₁ m₂ : XE} {e₁ e₂ : Expr} {pos : Pos} (h₁ : ES G f n m₁ e₁) (h₂ : ES G f n m₂ e₂) (hm : behindInMarks .In e₂ = false := by with_unfolding_all rfl) : ES G f n (xin m₁ m₂) (.Compare e₁ [.In] [e₂] pos) := by
  intro A L φ η loc s k hA S h
  refine wpAny_Compare1 (hm := hm) (h₁.then (β := Unit) hA S h fun u v η1 φ1 s1 hk hv st S1 => ?_)
  refine h₂.then (β := Unit) hA S1 hk fun u2 v2 η2 φ2 s2 hk2 hv2 st2 S2 => ?_
  obtain ⟨b, hb, z, -⟩ := in_of (A := A) (by have := hA.units; (first | lia | omega)) S2.hr (hv.st st2.pre (S1.st st2)) hv2 hk2
  exact z _ fun tk => Post.from (st.trans st2 S.hr S1.hr) S.hr S2.hr (Post.tick S2.hr hb rfl)
theorem ts_in {m₁ m₂ : XE} {e₁ e₂ : Expr} {pos : Pos} (h₁ : ES G f n m₁ e₁) (h₂ : ES G f n m₂ e₂) (hm : behindInMarks .In e₂ = false := by with_unfolding_all rfl) : TS G f n (xin m₁ m₂) (.Compare e₁ [.In] [e₂] pos) := by
  intro A L φ η loc s k hA S h
  refine wpAny_isTrue_Compare1 (hm := hm) (h₁.then (β := Unit) hA S h fun u v η1 φ1 s1 hk hv st S1 => ?_)
  refine h₂.then (β := Unit) hA S1 hk fun u2 v2 η2 φ2 s2 hk2 hv2 st2 S2 => ?_
  obtain ⟨b, hb, z, -⟩ := in_of (A := A) (k := fun v h => truthy v fun b => k b h) (by have := hA.units; (first | lia | omega)) S2.hr (hv.st st2.pre (S1.st st2)) hv2 hk2
  exact z _ fun tk => wpAny_truthy_bool (PostB.from (st.trans st2 S.hr S1.hr) S.hr S2.hr (PostB.tick S2.hr hb))
theorem es_notin {m₁ m₂ : XE} {e₁ e₂ : Expr} {pos : Pos} (h₁ : ES G f n m₁ e₁) (h₂ : ES G f n m₂ e₂) (hm : behindInMarks .NotIn e₂ = false := by with_unfolding_all rfl) : ES G f n (xnotin m₁ m₂) (.Compare e₁ [.NotIn] [e₂] pos) := by
  intro A L φ η loc s k hA S h
  refine wpAny_Compare1 (hm := hm) (h₁.then (β := Unit) hA S h fun u v η1 φ1 s1 hk hv st S1 => ?_)
  refine h₂.then (β := Unit) hA S1 hk fun u2 v2 η2 φ2 s2 hk2 hv2 st2 S2 => ?_
  obtain ⟨b, hb, -, z⟩ := in_of (A := A) (k := fun v h => truthy v fun b => k (.bool (bnt b)) h) (by have := hA.units; (first | lia | omega)) S2.hr (hv.st st2.pre (S1.st st2)) hv2 hk2
  have hb : k (.bool (bnt b)) η2 = true := hb
  rw [bnt_eq] at hb
  exact z _ fun tk => Post.from (st.trans st2 S.hr S1.hr) S.hr S2.hr (Post.tick S2.hr hb rfl)
theorem ts_notin {m₁ m₂ : XE} {e₁ e₂ : Expr} {pos : Pos} (h₁ : ES G f n m₁ e₁) (h₂ : ES G f n m₂ e₂) (hm : behindInMarks .NotIn e₂ = false := by with_unfolding_all rfl) : TS G f n (xnotin m₁ m₂) (.Compare e₁ [.NotIn] [e₂] pos) := by
  intro A L φ η loc s k hA S h
  refine wpAny_isTrue_Compare1 (hm := hm) (h₁.then (β := Unit) hA S h fun u v η1 φ1 s1 hk hv st S1 => ?_)
  refine h₂.then (β := Unit) hA S1 hk fun u2 v2 η2 φ2 s2 hk2 hv2 st2 S2 => ?_
  obtain ⟨b, hb, -, z⟩ := in_of (A := A) (k := fun v h => truthy v fun b => truthy (.bool (bnt b)) fun b => k b h) (by have := hA.units; (first | lia | omega)) S2.hr (hv.st st2.pre (S1.st st2)) hv2 hk2
  have hb : k (bnt b) η2 = true := hb
  rw [bnt_eq] at hb
  exact z _ fun tk => wpAny_truthy_bool (PostB.from (st.trans st2 S.hr S1.hr) S.hr S2.hr (PostB.tick S2.hr hb))

-- == []
theorem nil_of {A : Around} {φ : Phi} {η : H} {s : Shared} {v : V} {u : Value} {b : Addr} {k : V → H → Bool} (hu : A.units < cLine) (r : HR G φ η s.heap) (hv : VR φ s.heap v u) (hb : PlainL s.heap b (List.toArray []))
    (h : asList v η (fun _ xs => @List.rec V (fun _ => Bool) (k (.bool true) η) (fun _ _ _ => k (.bool false) η) xs) = true) :
    ∃ c : Bool, k (.bool c) η = true ∧ (∀ Q : Value → Shared → Prop, Q (.bool c) s → wpAny G.M A (compareOp .Eq u (.ref b)) Q NoE s) := by
  obtain ⟨j, xs, rfl, eo, h1⟩ := asList_of h
  obtain ⟨a, d, ej, rfl⟩ := hv
  obtain ⟨rfl, us, hl, hu'⟩ := r.list ej eo
  have hlen := hu'.length
  cases xs with
  | nil =>
    have e : us = [] := List.length_eq_zero_iff.mp hlen
    subst e
    refine ⟨true, h1, fun Q q => PySem.SeqAt.eq_listAt (e := fun _ => true) hl.isList hb.isList rfl hu (fun j h1 h2 => absurd h1 (by simp)) ?_⟩
    simpa using q
  | cons x xs =>
    refine ⟨false, h1, fun Q q => PySem.SeqAt.eq_list_lengthsAt hl.isList hb.isList ?_ hu q⟩
    rw [List.size_toArray, List.size_toArray, hlen]; rfl
theorem es_isNil {m : XE} {e : Expr} {p pos : Pos} (h₁ : ES G f n m e) : ES G f n (xisNil m) (.Compare e [.Eq] [.List [] p] pos) := by
  intro A L φ η loc s k hA S h
  refine wpAny_Compare1 (hm := by with_unfolding_all rfl) (h₁.then (β := Unit) hA S h fun u v η1 φ1 s1 hk hv st S1 => ?_)
  refine List_ (args_nil (wpAny_newObj_type ?_ (by show (0 : Nat) ≤ sizeLine; exact Nat.zero_le _)))
  have kp : ∀ b ob, s1.heap.get? b = some ob → (s1.heap.push { cls := .type "list", data := .seq (List.toArray []) }).get? b = some ob := fun b o e => Heap.get?_push_of_some _ e
  have st2 : Step φ1 φ1 s1 { s1 with heap := s1.heap.push { cls := .type "list", data := .seq (List.toArray []) } } := Step.same kp rfl rfl rfl
  have r2 := S1.hr.grow kp
  obtain ⟨c, hc, z⟩ := nil_of (s := { s1 with heap := s1.heap.push { cls := .type "list", data := .seq (List.toArray []) } }) (A := A) (by have := hA.units; (first | lia | omega)) r2 (hv.st st2.pre (S1.st st2)) (PlainL.new _ _) hk
  exact z _ (Post.from (st.trans st2 S.hr S1.hr) S.hr r2 ⟨_, _, _, hc, rfl, Step.refl _ _, r2⟩)
theorem ts_isNil {m : XE} {e : Expr} {p pos : Pos} (h₁ : ES G f n m e) : TS G f n (xisNil m) (.Compare e [.Eq] [.List [] p] pos) := by
  intro A L φ η loc s k hA S h
  refine wpAny_isTrue_Compare1 (hm := by with_unfolding_all rfl) (h₁.then (β := Unit) hA S h fun u v η1 φ1 s1 hk hv st S1 => ?_)
  refine List_ (args_nil (wpAny_newObj_type ?_ (by show (0 : Nat) ≤ sizeLine; exact Nat.zero_le _)))
  have kp : ∀ b ob, s1.heap.get? b = some ob → (s1.heap.push { cls := .type "list", data := .seq (List.toArray []) }).get? b = some ob := fun b o e => Heap.get?_push_of_some _ e
  have st2 : Step φ1 φ1 s1 { s1 with heap := s1.heap.push { cls := .type "list", data := .seq (List.toArray []) } } := Step.same kp rfl rfl rfl
  have r2 := S1.hr.grow kp
  obtain ⟨c, hc, z⟩ := nil_of (s := { s1 with heap := s1.heap.push { cls := .type "list", data := .seq (List.toArray []) } }) (A := A) (k := fun v h => truthy v fun b => k b h) (by have := hA.units; (first | lia | omega)) r2 (hv.st st2.pre (S1.st st2)) (PlainL.new _ _) hk
  exact z _ (wpAny_truthy_bool (PostB.from (st.trans st2 S.hr S1.hr) S.hr r2 ⟨_, _, hc, Step.refl _ _, r2⟩))

-- append
theorem es_append {m₁ m₂ : XE} {o e : Expr} {apos pos : Pos} (h₁ : ES G f n m₁ o) (h₂ : ES G f n m₂ e)
    (hline : (apos.endLine == pos.line) = true)
    (hbase : ∀ env, attributeBase o "append" env (eval o env) = eval o env := by intro _; with_unfolding_all rfl)
    (hfew : ∀ env, ((backTo pos (starEach [e] env)).all (fun x => !x.1) && (backToKw pos (keywordEach [] env)).all (fun x => x.1.isSome)
      && decide (([e] : List Expr).length + ([] : List Keyword).length + (if ([] : List Keyword).isEmpty then 0 else 1) < 30)) = true := by intro _; with_unfolding_all rfl)
    (htrees : ∀ env, backTo pos (starEach [e] env) = [(false, eval e env)] := by intro _; with_unfolding_all rfl) :
    ES G f n (xappend m₁ m₂) (.Call (.Attribute o "append" apos) [e] [] pos) := by
  intro A L φ η loc s k hA S h
  refine wpAny_Call_append (hbase _) (hfew _) hline (htrees _) (h₁.then (β := Unit) hA S h fun u v η1 φ1 s1 hk hv st S1 => ?_)
  obtain ⟨j, xs, rfl, eo, hk1⟩ := asList_of hk
  obtain ⟨a, d, ej, rfl⟩ := hv
  obtain ⟨rfl, us, hl, hu⟩ := S1.hr.list ej eo
  refine ⟨_, _, rfl, hl, ?_⟩
  refine h₂.then (β := Unit) hA S1 hk1 fun u2 w η2 φ2 s2 hk2 hv2 st2 S2 => ?_
  obtain ⟨j', xs', e1, eo', hk3⟩ := asList_of hk2
  cases e1
  have ej' := pre_get st2.pre ej
  obtain ⟨_, us', hl', hu'⟩ := S2.hr.list ej' eo'
  obtain ⟨hb, hk4⟩ := bc_of hk3
  have hb : lenV xs' ≤ 1000000 := Nat.le_of_ble_eq_true hb
  rw [lenV_eq] at hb
  rw [snocK_eq] at hk4
  refine list_append_plainL hl' (fun h' hp hs => ?_) (by rw [List.size_toArray, hu'.length, sizeLine_eq]; (first | lia | omega))
  obtain ⟨t, m, rr⟩ := η2
  obtain ⟨hro, hk5⟩ : Nat.ble rr j = true ∧ k .none ⟨t.put (.list (xs' ++ [w])) j, m, rr⟩ = true := bc_of hk4
  have hro : rr ≤ j := Nat.le_of_ble_eq_true hro
  have hrr : rr = G.ro := S2.hr.ror
  have st3 : Step φ2 φ2 s2 { s2 with heap := h' } := Step.turn (List.mem_of_getElem? ej') (fun b q => hs.2 b q) rfl rfl rfl
  have sto : St s2.heap h' := st3.st S2.hr
  have r3 : HR G φ2 ⟨t.put (.list (xs' ++ [w])) j, m, rr⟩ h' := by
    refine S2.hr.turn ej' (fun b q => hs.2 b q) (hrr ▸ hro) ⟨rfl, us' ++ [u2], ?_, ?_⟩
    · have : (us' ++ [u2]).toArray = us'.toArray.push u2 := by simp
      rw [this]; exact hp
    · exact (hu'.st (List.prefix_refl _) sto).append (VsR.cons (hv2.st (List.prefix_refl _) sto) rfl)
  exact ⟨.none, _, φ2, hk5, rfl, (st.trans st2 S.hr S1.hr).trans st3 S.hr S2.hr, r3⟩
end
end Kp
end
-- part KpExpr5
section
set_option autoImplicit false
set_option linter.unusedVariables false
namespace Kp
open PySem PySem.W PyProof.Rows PySem.Calls

theorem join_rep (u : Value) (acc : Array Value) : ∀ k : Nat, List.foldl (fun x1 x2 => x1 ++ x2) acc (List.replicate k #[u]) = acc ++ (List.replicate k u).toArray
  | 0 => by simp
  | k + 1 => by
    rw [List.replicate_succ, List.foldl_cons, join_rep u _ k, List.replicate_succ]
    apply Array.ext'
    simp

section
variable {G : Base} {f : Fx} {n : Nat}

theorem mul_one {A : Around} {s : Shared} {l : Addr} {u : Value} {k : Nat} {x : Int} {t : Tok} {Q : Value → Shared → Prop}
    (hl : s.heap.get? l = some { cls := .type "list", data := .seq #[u] k }) (h0 : 0 ≤ x) (hx : x ≤ 1000000)
    (h : Q (.ref s.heap.objs.size) { s with heap := s.heap.push { cls := .type "list", data := .seq (List.replicate x.toNat u).toArray } }) :
    wpAny G.M A (binaryOp .Mult (.ref l) (.int x t)) Q NoE s := by
  have e : List.foldl (fun x1 x2 => x1 ++ x2) #[] (List.replicate (if (#[u] : Array Value).isEmpty = true then 0 else x.toNat) #[u]) = (List.replicate x.toNat u).toArray := by
    have : (#[u] : Array Value).isEmpty = false := rfl
    rw [this, if_neg (by decide), join_rep]
    simp
  refine wpAny_binaryOp_repeat_ref (T := "list") (U := "int") (by decide) ⟨_, hl, rfl⟩ (fun s' => typeIs_int s' _ t) noFill_list_mul PySem.F.fills_int_mul PySem.F.slot_int_rmul repeat_list PySem.F.slot_int_index.lookup
    (call_meets PySem.F.slot_int_rmul (typeIs_int s _ t) PySem.F.entry_int_rmul (PySem.F.args_int_rmul_2 _ _) (int___rmul___int_list _ t l #[u] k)
      ⟨hl, rfl, ⟨_, hl, rfl⟩, call_meets PySem.F.slot_list_mul ⟨_, hl, rfl⟩ PySem.F.entry_list_mul (PySem.F.args_list_mul_2 _ _)
        (AutoListH.list___mul___list_int_3 l #[u] k _ t (by simp [Builtin.List.listFitsIndex]; (first | lia | omega)) (by
          have q : (#[u] : Array Value).size = 1 := rfl
          rw [q]
          (first | lia | omega)) (by
          have q : (#[u] : Array Value).size = 1 := rfl
          unfold Builtin.List.listTooLong sizeLine
          rw [q]
          simp
          (first | lia | omega)))
        ⟨hl, ?_⟩⟩)
  have e' := e
  simp only [e']
  exact h

theorem repK_rep (v : V) (j : Nat) (k : List V → Bool) : repK v j [] k = k (List.replicate j v) := by rw [repK_eq]; simp
theorem es_rep {m₁ m₂ : XE} {e₁ e₂ : Expr} {p pos : Pos} (h₁ : ES G f n m₁ e₁) (h₂ : ES G f n m₂ e₂) (he : ∀ env, starEach [e₁] env = [(false, eval e₁ env)] := by intro _; rfl) : ES G f n (xrep m₁ m₂) (.BinOp (.List [e₁] p) .Mult e₂ pos) := by
  intro A L φ η loc s k hA S h
  refine wpAny_BinOp (List_ ?_)
  rw [he]
  refine spliced_cons (h₁.then (β := Unit) hA S h fun u v η1 φ1 s1 hk hv st S1 => spliced_nil (wpAny_newObj_type ?_ (by show (1 : Nat) ≤ sizeLine; rw [sizeLine_eq]; (first | lia | omega))))
  have kp : ∀ b ob, s1.heap.get? b = some ob → (s1.heap.push { cls := .type "list", data := .seq (List.toArray [u]) }).get? b = some ob := fun b o e => Heap.get?_push_of_some _ e
  have st2 : Step φ1 φ1 s1 { s1 with heap := s1.heap.push { cls := .type "list", data := .seq (List.toArray [u]) } } := Step.same kp rfl rfl rfl
  have r2 := S1.hr.grow kp
  have S2 : SR G f φ1 η1 L loc { s1 with heap := s1.heap.push { cls := .type "list", data := .seq (List.toArray [u]) } } := S1.step st2 r2
  refine h₂.then (β := Unit) hA S2 hk fun u2 v2 η3 φ3 s3 hk3 hv3 st3 S3 => ?_
  obtain ⟨i, rfl, hk4⟩ := asInt_of hk3
  obtain ⟨j, j', rfl, e2, hk5⟩ := nat2_of hk4
  cases e2
  obtain ⟨hb, hk6⟩ := bc_of hk5
  have hb : j ≤ 1000000 := Nat.le_of_ble_eq_true hb
  obtain ⟨t, rfl⟩ := VR.int hv3
  have hl : s3.heap.get? s1.heap.objs.size = some { cls := .type "list", data := .seq #[u] } := by
    refine st3.ev _ _ (Heap.get?_push_size _ rfl) fun p hp q => ?_
    have := S1.hr.lt hp
    rw [q] at this; exact absurd this (Nat.lt_irrefl _)
  have st4 := (st.trans st2 S.hr S1.hr).trans st3 S.hr S2.hr
  have hv' := (hv.st st2.pre (S1.st st2)).st st3.pre (S2.st st3)
  refine mul_one (k := 0) hl (by simp) (by show (j : Int) ≤ _; (first | lia | omega)) (Post.from st4 S.hr S3.hr ?_)
  cases iz : isZero v with
  | false =>
    rw [iz] at hk6
    have hk6 : repK v j [] (fun xs => alloc (.list xs) η3 k) = true := hk6
    rw [repK_rep] at hk6
    exact new_list S3.hr (Nat.le_of_lt S3.big) (VsR.rep hv' j) hk6
  | true =>
    rw [iz] at hk6
    have hk6 : allocS (.pk 0 j) η3 k = true := hk6
    have ev : v = .int (.ofNat 0) := by
      cases v with
      | int i =>
        have iz : ieq i (.ofNat 0) = true := iz
        rw [ieq_eq] at iz
        rw [of_decide_eq_true iz]
      | _ => cases iz
    subst ev
    refine new_pk S3.hr (Nat.le_of_lt S3.big) ?_ hk6
    rw [unpk_zero]
    exact VsR.rep hv' j

-- the class
theorem asNone_of {v : V} {k : Bool} (h : asNone v k = true) : v = .none ∧ k = true := by cases v <;> first | exact ⟨rfl, h⟩ | cases h
noncomputable def unb14 : List V := [.unb, .unb, .unb, .unb, .unb, .unb, .unb, .unb, .unb, .unb, .unb, .unb, .unb, .unb]
theorem getV_rep (n i : Nat) : getV (List.replicate n .unb) i = .unb := by
  rw [getV_eq, List.getElem?_replicate]
  split <;> rfl
theorem unb14_get : ∀ i, getV unb14 i = .unb := getV_rep 14
theorem es_new {init : Fn} {x : Str} {m : XE} {r : XL} {e : Expr} {es : List Expr} {p pos : Pos} (ok : f.Ok) (hx : f.cs.names.lookup x = some .globalImplicit) (hd : (x == ("__debug__" : Str)) = false) (hm : G.mg x = some (.ref G.C)) (hkeep : keepIn G.K (.ref G.C) = true) (hf : FS G n init G.fI) (h₁ : LS G f (n + 1) (econs m r) (e :: es))
    (he : ∀ env, starEach (e :: es) env = (false, eval e env) :: starEach es env := by intro _; rfl) (hp : ∀ env, (backTo pos (starEach es env)).any (·.1) = false := by intro _; rfl) :
    ES G f (n + 1) (xcall (newInst init unb14) (econs m r)) (.Call (.Name x p) (e :: es) [] pos) := by
  intro A L φ η loc s k hA S h
  refine wpAny_Call_NameR (Name_function_global (env := f.env L) ok.kind hx (loadGlobal_global (env := f.env L) (G.g.keeps S.hr.keep) hm ?_) hd)
  refine callWith_K (h₀ := G.h₀) G.X hkeep (he := he _) (hplain := hp _) ?_
  refine wpAny_mono (h₁ pos A L φ η loc s _ hA S h) (fun us s' y => ?_) fun _ _ z => z
  obtain ⟨vs, ζ, ψ, b, c, d, e'⟩ := y
  have X' : G.K.In s'.heap := fun b o q => e'.keep b o (G.X b o q)
  refine ⟨X', wpAny_call ?_⟩
  have S' := S.step d e'
  have big := Nat.le_of_lt S'.big
  obtain ⟨hh, g, dr, tk, os⟩ := s'
  obtain ⟨t, mm, rr⟩ := ζ
  have b : init (.ref mm :: vs) ⟨t.put (.inst unb14) mm, Nat.succ mm, rr⟩ (fun r h => asNone r (k (.ref mm) h)) = true := b
  have kp : ∀ b ob, hh.get? b = some ob → ((hh.push emptyDict).push (instObj G.C hh.objs.size)).get? b = some ob := fun b o q => Heap.get?_push_of_some _ (Heap.get?_push_of_some _ q)
  have hi : ((hh.push emptyDict).push (instObj G.C hh.objs.size)).get? (hh.objs.size + 1) = some (instObj G.C hh.objs.size) := by
    have : (hh.push emptyDict).objs.size = hh.objs.size + 1 := Heap.size_push ..
    rw [← this]; exact Heap.get?_push_size _ rfl
  have hdd : ((hh.push emptyDict).push (instObj G.C hh.objs.size)).get? hh.objs.size = some emptyDict := Heap.get?_push_of_some _ (Heap.get?_push_size _ rfl)
  have st2 : Step ψ (ψ ++ [(hh.objs.size + 1, hh.objs.size)]) ⟨hh, g, dr, tk, os⟩ ⟨(hh.push emptyDict).push (instObj G.C hh.objs.size), g, dr, tk, os⟩ := Step.alloc (no_at_size _) kp rfl rfl rfl
  have r2 : HR G (ψ ++ [(hh.objs.size + 1, hh.objs.size)]) ⟨t.put (.inst unb14) mm, Nat.succ mm, rr⟩ ((hh.push emptyDict).push (instObj G.C hh.objs.size)) :=
    e'.alloc big (no_at_size _) kp ⟨hi, [], 0, hdd, fun i nm _ q => absurd (unb14_get i) q, (fun _ z => by cases z), Nat.zero_le _, rfl⟩
  have e : ψ.length = mm := e'.len
  have hv : VR (ψ ++ [(hh.objs.size + 1, hh.objs.size)]) ((hh.push emptyDict).push (instObj G.C hh.objs.size)) (.ref mm) (.ref (hh.objs.size + 1)) := ⟨_, hh.objs.size, by rw [← e]; simp, rfl⟩
  have c2 := c.st st2.pre (st2.st e')
  have hA2 : Room (A.under (.builtin "type.__call__" ⟨.ref G.C :: us, []⟩)) n := ⟨by
    have := hA.depth
    show A.depth + 1 + n < _; (first | lia | omega), by
    have := hA.units
    show A.units + 1 + 8 * n + 16 < _; (first | lia | omega), hA.handled⟩
  refine make_core (makes_of X' G.cmake) (looks_findIn X' G.cinit) (fun self => bind_fn X' self (beq_iff_eq.mp G.cfn)) (.inl rfl) ?_
  refine codeAny_mono (hf _ _ _ ⟨(hh.push emptyDict).push (instObj G.C hh.objs.size), g, dr, tk, os⟩ _ (.ref (hh.objs.size + 1) :: us) _ hA2 r2 ?_ (VsR.cons hv c2) b) fun r s2 y => ?_
  · show _ ≤ ((hh.push emptyDict).push (instObj G.C hh.objs.size)).objs.size
    rw [Heap.size_push, Heap.size_push]
    exact Nat.le_trans big (Nat.le_trans (Nat.le_succ _) (Nat.le_succ _))
  · rcases r with e | (u | _ | _ | _) <;> first | exact y.elim | skip
    obtain ⟨v, η3, φ3, q1, q2, q3, q4⟩ := y
    obtain ⟨rfl, q5⟩ := asNone_of q1
    refine ⟨q2, ?_⟩
    exact ⟨.ref mm, η3, φ3, q5, hv.st q3.pre (q3.st r2), (d.trans st2 S.hr e').trans q3 S.hr r2, q4⟩
end
end Kp
end
-- part KpStmt
section
set_option autoImplicit false
set_option linter.unusedVariables false
namespace Kp
open PySem PySem.W PyProof.Rows PySem.Calls

section
variable {G : Base} {f : Fx} {n : Nat}

theorem SR.alive {φ : Phi} {η : H} {L : Addr} {loc : Loc} {s : Shared} (S : SR G f φ η L loc s) : ∃ o es ep, s.heap.get? L = some o ∧ o.data = .dict es ep := by
  obtain ⟨m, ⟨o, es, ep, ho, hd, -⟩, -⟩ := S.fr
  exact ⟨o, es, ep, ho, hd⟩
theorem StepL.st {φ φ' : Phi} {η : H} {L : Addr} {loc : Loc} {s s' : Shared} (x : StepL L φ φ' s s') (S : SR G f φ η L loc s) : St s.heap s'.heap := by
  intro b o e i
  refine x.ev b o e (S.hr.notIm e i) fun q => ?_
  subst q
  obtain ⟨o', es, ep, ho, hd⟩ := S.alive
  rw [e] at ho
  cases ho
  rcases i with ⟨-, _, _, i⟩ | ⟨-, _, i⟩ | i <;> rw [hd] at i <;> cases i
theorem StepL.trans {φ φ' φ'' : Phi} {η η' : H} {L : Addr} {loc loc' : Loc} {s s' s'' : Shared} (x : StepL L φ φ' s s') (y : StepL L φ' φ'' s' s'') (S : SR G f φ η L loc s) (S' : SR G f φ' η' L loc' s') : StepL L φ φ'' s s'' := by
  refine ⟨x.pre.trans y.pre, fun b o e n l => ?_, fun p hp => ?_, y.gens.trans x.gens, y.drawn.trans x.drawn, y.os.trans x.os⟩
  · refine y.ev b o (x.ev b o e n l) (fun p hp q => ?_) l
    rcases x.fresh p hp with h | h
    · exact n p h q
    · rw [q, e] at h; cases h
  · rcases y.fresh p hp with h | h
    · exact x.fresh p h
    · cases e : s.heap.get? p.2 with
      | none => exact .inr rfl
      | some o =>
        by_cases l : p.2 = L
        · obtain ⟨o', _, _, ho, _⟩ := S'.alive
          rw [l, ho] at h; cases h
        · by_cases n : ∀ q ∈ φ, q.2 ≠ p.2
          · rw [x.ev _ _ e n l] at h; cases h
          · simp only [ne_eq, Classical.not_forall, Classical.not_not] at n
            obtain ⟨q, hq, he⟩ := n
            obtain ⟨ob, ho, -⟩ := S'.hr.alive (x.pre.subset hq)
            rw [he, h] at ho; cases ho

noncomputable def PostS (G : Base) (f : Fx) (L : Addr) (φ : Phi) (s : Shared) (kn : KN) (kr : KR) (kb kc : KN) (fl : Flow) (s' : Shared) : Prop :=
  ∃ φ' η', StepL L φ φ' s s' ∧ match fl with
    | .next => ∃ loc', SR G f φ' η' L loc' s' ∧ kn loc' η' = true
    | .ret u => ∃ v, HR G φ' η' s'.heap ∧ VR φ' s'.heap v u ∧ kr v η' = true
    | .brk => ∃ loc', SR G f φ' η' L loc' s' ∧ kb loc' η' = true
    | .cont => ∃ loc', SR G f φ' η' L loc' s' ∧ kc loc' η' = true
noncomputable def SS (G : Base) (f : Fx) (n : Nat) (m : XS) (st : Stmt) : Prop :=
  ∀ A L φ η loc s kn kr kb kc, Room A n → SR G f φ η L loc s → m loc η kn kr kb kc = true → wpAny G.M A (exec st (f.env L)) (PostS G f L φ s kn kr kb kc) NoE s
noncomputable def BS (G : Base) (f : Fx) (n : Nat) (m : XS) (sts : List Stmt) : Prop :=
  ∀ A L φ η loc s kn kr kb kc, Room A n → SR G f φ η L loc s → m loc η kn kr kb kc = true → wpAny G.M A (execs sts (f.env L)) (PostS G f L φ s kn kr kb kc) NoE s
theorem PostS.from {φ φ' : Phi} {η η' : H} {L : Addr} {loc loc' : Loc} {s s' s'' : Shared} {kn : KN} {kr : KR} {kb kc : KN} {fl : Flow} (x : StepL L φ φ' s s') (S : SR G f φ η L loc s) (S' : SR G f φ' η' L loc' s') (p : PostS G f L φ' s' kn kr kb kc fl s'') : PostS G f L φ s kn kr kb kc fl s'' := by
  obtain ⟨ψ, ζ, y, z⟩ := p
  exact ⟨ψ, ζ, x.trans y S S', z⟩

theorem bs_nil : BS G f n spass [] := fun A L φ η loc s kn kr kb kc hA S h => wpAny_execs_nil ⟨φ, η, StepL.refl _ _, loc, S, h⟩
theorem bs_cons {m₁ m₂ : XS} {st : Stmt} {r : List Stmt} (h₁ : SS G f n m₁ st) (h₂ : BS G f n m₂ r) : BS G f n (sseq m₁ m₂) (st :: r) := by
  intro A L φ η loc s kn kr kb kc hA S h
  refine wpAny_execs_cons (wpAny_mono (h₁ A L φ η loc s _ kr kb kc hA S h) (fun fl s' x => ?_) fun _ _ z => z)
  obtain ⟨φ', η', st1, y⟩ := x
  cases fl with
  | next =>
    obtain ⟨loc', S', k⟩ := y
    exact wpAny_mono (h₂ A L φ' η' loc' s' kn kr kb kc hA S' k) (fun fl s'' z => PostS.from st1 S S' z) fun _ _ z => z
  | ret u => exact ⟨φ', η', st1, y⟩
  | brk => exact ⟨φ', η', st1, y⟩
  | cont => exact ⟨φ', η', st1, y⟩
theorem bs_one {m : XS} {st : Stmt} (h₁ : SS G f n m st) : BS G f n m [st] := by
  intro A L φ η loc s kn kr kb kc hA S h
  refine wpAny_execs_cons (wpAny_mono (h₁ A L φ η loc s kn kr kb kc hA S h) (fun fl s' x => ?_) fun _ _ z => z)
  cases fl with
  | next => exact wpAny_execs_nil x
  | ret u => exact x
  | brk => exact x
  | cont => exact x

-- one expression, then the rest of a statement
theorem ES.thenS {m : XE} {e : Expr} (x : ES G f n m e) {A : Around} {L : Addr} {φ : Phi} {η : H} {loc : Loc} {s : Shared} {k : V → H → Bool} (hA : Room A n)
    (S : SR G f φ η L loc s) (h : m loc η k = true) {Q : Value → Shared → Prop}
    (nx : ∀ u v η' φ' s', k v η' = true → VR φ' s'.heap v u → Step φ φ' s s' → SR G f φ' η' L loc s' → Q u s') : wpAny G.M A (eval e (f.env L)) Q NoE s := x.then (β := Unit) hA S h nx

theorem setV_ge (v : V) : ∀ (xs : List V) (i : Nat), xs.length ≤ i → setV v xs i = xs
  | [], _, _ => rfl
  | x :: xs, 0, h => by simp at h
  | x :: xs, i + 1, h => by
    have : setV v (x :: xs) (i + 1) = x :: setV v xs i := rfl
    rw [this, setV_ge v xs i (by simpa using h)]
theorem getV_ge : ∀ (xs : List V) (i : Nat), xs.length ≤ i → getV xs i = .unb := fun xs i h => by rw [getV_eq, List.getElem?_eq_none h]; rfl

theorem SR.store {φ : Phi} {η : H} {L : Addr} {loc : Loc} {s : Shared} {i : Nat} {nm : Str} {v : V} {u : Value} {h' : Heap} {m : Str → Option Value} {tk : Nat} (ok : f.Ok) (S : SR G f φ η L loc s) (hn : f.names[i]? = some nm) (hv : VR φ s.heap v u)
    (hm : ∀ i nm, f.names[i]? = some nm → getV loc i ≠ .unb → ∃ u, m nm = some u ∧ VR φ s.heap (getV loc i) u)
    (ns : h'.Ns L (fun x => if x = nm then some u else m x)) (hs : Heap.SameBut L s.heap h') : SR G f φ η L (setV v loc i) { s with heap := h', toks := tk } ∧ StepL L φ φ s { s with heap := h', toks := tk } := by
  have stp : StepL L φ φ s { s with heap := h', toks := tk } := ⟨List.prefix_refl _, fun b o e _ l => (hs.2 b l).trans e, fun _ h => .inl h, rfl, rfl, rfl⟩
  have sto : St s.heap h' := stp.st S
  have r : HR G φ η h' := by
    refine ⟨fun b o e => ?_, S.hr.len, fun j a d e => ?_, S.hr.above, S.hr.nd, fun b o e => (hs.2 b fun q => S.outF o (q ▸ e)).trans (S.hr.frz b o e), S.hr.aboveF, S.hr.ror⟩
    · have : b ≠ L := fun q => by
        subst q
        exact absurd (Heap.lt_size e) (Nat.not_lt.mpr S.above)
      exact (hs.2 b this).trans (S.hr.keep b o e)
    · exact (S.hr.obj j a d e).st (List.prefix_refl _) sto (hs.2 d (S.out (a, d) (List.mem_of_getElem? e)))
  refine ⟨⟨r, S.above, S.out, S.outF, _, ns, fun j nm' a b => ?_⟩, stp⟩
  by_cases q : nm' = nm
  · subst q
    have hij : i = j := (List.getElem?_inj (List.getElem?_eq_some_iff.mp hn).1 ok.nd).mp (hn.trans a.symm)
    subst hij
    by_cases z : i < loc.length
    · have ee : getV (setV v loc i) i = v := by rw [getV_set v loc i i z, if_pos rfl]
      rw [ee] at b ⊢
      exact ⟨u, by simp, hv.st (List.prefix_refl _) sto⟩
    · rw [setV_ge v loc i (by (first | lia | omega)), getV_ge loc i (by (first | lia | omega))] at b
      exact absurd rfl b
  · have hij : i ≠ j := by
      rintro rfl
      rw [hn] at a
      exact q (Option.some.inj a).symm
    have e : getV (setV v loc i) j = getV loc j := by
      by_cases z : i < loc.length
      · rw [getV_set v loc i j z, if_neg hij]
      · rw [setV_ge v loc i (by (first | lia | omega))]
    rw [e] at b ⊢
    obtain ⟨w, c, d⟩ := hm j nm' a b
    exact ⟨w, by simp only [if_neg q]; exact c, d.st (List.prefix_refl _) sto⟩
theorem store_wp {A : Around} {φ : Phi} {η : H} {L : Addr} {loc : Loc} {s : Shared} {i : Nat} {nm : Str} {v : V} {u : Value} {Q : Unit → Shared → Prop} (ok : f.Ok) (S : SR G f φ η L loc s) (hn : f.names[i]? = some nm) (hv : VR φ s.heap v u)
    (h : ∀ s', SR G f φ η L (setV v loc i) s' → StepL L φ φ s s' → Q () s') : wpAny G.M A (storeName (f.env L) nm u) Q NoE s := by
  obtain ⟨m, ns, hm⟩ := S.fr
  refine wpAny_storeName_local (ok.loc _ (List.mem_of_getElem? hn)) ns (fun h' ns' hs => ?_) (by
    show (f.cs.kind == .class || (f.cs.kind == .module && L != mainGlobals)) = false
    rw [ok.kind]; rfl)
  obtain ⟨a, b⟩ := S.store (tk := s.toks + 1) ok hn hv hm ns' hs
  exact h _ a b

theorem ss_set {i : Nat} {nm : Str} {m : XE} {e : Expr} {p pos : Pos} (ok : f.Ok) (hn : f.names[i]? = some nm) (h₁ : ES G f n m e) (hs : ∀ env, swapsWith e (some (.Name nm p)) pos.line env = pure false := by intro _; rfl) : SS G f n (sset i m) (.Assign [.Name nm p] e pos) := by
  intro A L φ η loc s kn kr kb kc hA S h
  refine wpAny_Assign_Name (hs := hs _) (h₁.thenS hA S h fun u v η1 φ1 s1 hk hv st S1 => ?_)
  rw [setK_eq] at hk
  exact store_wp ok S1 hn hv fun s2 S2 st2 => ⟨φ1, η1, st.l.trans st2 S S1, _, S2, hk⟩
theorem ss_aug {i : Nat} {nm : Str} {o : Op} {op : Operator} {m : XE} {e : Expr} {p pos : Pos} (ok : f.Ok) (hn : f.names[i]? = some nm) (ho : IopOk G o op) (h₁ : ES G f n m e) : SS G f n (saug i o m) (.AugAssign (.Name nm p) op e pos) := by
  intro A L φ η loc s kn kr kb kc hA S h
  obtain ⟨hu, hk⟩ := known_of h
  obtain ⟨mm, ns, hm⟩ := S.fr
  obtain ⟨u0, e0, hv0⟩ := hm i nm hn hu
  refine wpAny_AugAssign_Name (wpAny_loadName_local ok.kind (ok.loc _ (List.mem_of_getElem? hn)) ns e0 ?_)
  refine h₁.thenS hA S hk fun u v η1 φ1 s1 hk1 hv st S1 => ?_
  obtain ⟨a, ea, hk2⟩ := asInt_of hk1
  obtain ⟨b, rfl, hk3⟩ := asInt_of hk2
  have hv0' := hv0.st st.pre (S.st st)
  rw [ea] at hv0'
  obtain ⟨t0, rfl⟩ := VR.int hv0'
  obtain ⟨t, rfl⟩ := VR.int hv
  refine ho.at_ _ _ _ _ _ _ _ _ hk3 fun c tk tk' hc => ?_
  rw [setK_eq] at hc
  have S1' : SR G f φ1 η1 L loc { s1 with toks := tk' } := S1.step (Step.same (fun _ _ e => e) rfl rfl rfl) S1.hr
  refine store_wp (v := .int c) ok S1' hn ⟨_, rfl⟩ fun s2 S2 st2 => ?_
  have st0 : Step φ1 φ1 s1 { s1 with toks := tk' } := Step.same (fun _ _ e => e) rfl rfl rfl
  have st3 : StepL L φ1 φ1 s1 s2 := st0.l.trans st2 S1 S1'
  exact ⟨φ1, η1, st.l.trans st3 S S1, _, S2, hc⟩

-- a tuple bound to names
noncomputable def elNames : List Expr → List Str → Prop
  | [], ns => ns = []
  | .Name x _ :: r, ns => ∃ s, ns = x :: s ∧ elNames r s
  | _ :: _, _ => False
theorem sets_wp {A : Around} {L : Addr} (ok : f.Ok) : ∀ (is : List Nat) (vs : List V) (us : List Value) (elts : List Expr) (φ : Phi) (η : H) (loc : Loc) (s : Shared) (k : Loc → Bool) (Q : Unit → Shared → Prop),
    (∀ (j : Nat) (x : Expr), elts[j]? = some x → ∃ (i : Nat) (nm : Str) (p : Pos), is[j]? = some i ∧ f.names[i]? = some nm ∧ x = Expr.Name nm p) → elts.length = is.length → SR G f φ η L loc s → VsR φ s.heap vs us → sets is vs loc k = true →
    (∀ loc' s', SR G f φ η L loc' s' → StepL L φ φ s s' → k loc' = true → Q () s') → wpAny G.M A (assignInOrder ((assignEach elts (f.env L)).map (·.2)) us) Q NoE s
  | [], vs, us, elts, φ, η, loc, s, k, Q, he, hl, S, hv, hk, q => by
    cases elts with
    | cons x r => cases hl
    | nil =>
      cases vs with
      | cons v r => cases hk
      | nil => exact assignInOrder_nil (q loc s S (StepL.refl _ _) hk)
  | i :: is, vs, us, elts, φ, η, loc, s, k, Q, he, hl, S, hv, hk, q => by
    cases elts with
    | nil => cases hl
    | cons x r =>
      cases vs with
      | nil => cases hk
      | cons v vr =>
        obtain ⟨u, ur, rfl, hu, hur⟩ := hv
        obtain ⟨i', nm, p, hi, hn, rfl⟩ := he 0 x rfl
        obtain rfl : i = i' := by simpa using hi
        have hk : setK v loc i (fun l => sets is vr l k) = true := hk
        rw [setK_eq] at hk
        show wpAny _ _ (assignInOrder ((fun v => assign (.Name nm p) (f.env L) v) :: (assignEach r (f.env L)).map (·.2)) (u :: ur)) _ _ _
        refine assignInOrder_cons (wpAny_assign_Name (store_wp ok S hn hu fun s1 S1 st1 => ?_))
        refine sets_wp ok is vr ur r φ η _ s1 k Q (fun j x hj => ?_) (by simpa using hl) S1 (hur.st (List.prefix_refl _) (st1.st S)) hk fun loc' s' S' st' hk' => q loc' s' S' (st1.trans st' S S1) hk'
        obtain ⟨a, b, c, d, e⟩ := he (j + 1) x (by simpa using hj)
        exact ⟨a, b, c, by simpa using d, e⟩
theorem each_len : ∀ (elts : List Expr) (env : Env), (assignEach elts env).length = elts.length
  | [], _ => rfl
  | x :: r, env => by cases x <;> simp [assignEach, each_len r env]
theorem each_star (env : Env) : ∀ (elts : List Expr), (∀ (j : Nat) (x : Expr), elts[j]? = some x → ∃ (nm : Str) (p : Pos), x = Expr.Name nm p) → (assignEach elts env).findIdx? (·.1) = none
  | [], _ => rfl
  | x :: r, h => by
    obtain ⟨nm, p, rfl⟩ := h 0 x rfl
    simp only [assignEach, List.findIdx?_cons, Bool.false_eq_true, if_false, Option.map_eq_none_iff]
    exact each_star env r fun j x hj => h (j + 1) x (by simpa using hj)
-- assigning a tuple
theorem tup_wp {A : Around} {L : Addr} {φ : Phi} {η : H} {loc : Loc} {s : Shared} {is : List Nat} {vs : List V} {u : Value} {elts : List Expr} {x1 : Nat} {pos : Pos} {k : Loc → Bool} {Q : Unit → Shared → Prop} (ok : f.Ok) (hh : A.handled = none)
    (he : ∀ (j : Nat) (x : Expr), elts[j]? = some x → ∃ (i : Nat) (nm : Str) (p : Pos), is[j]? = some i ∧ f.names[i]? = some nm ∧ x = Expr.Name nm p) (hl : elts.length = is.length) (S : SR G f φ η L loc s) (hv : VR φ s.heap (.tup vs) u) (hk : sets is vs loc k = true)
    (q : ∀ loc' s', SR G f φ η L loc' s' → StepL L φ φ s s' → k loc' = true → Q () s') : wpAny G.M A (assign (.Tuple elts x1 pos) (f.env L) u) Q NoE s := by
  obtain ⟨t, us, rfl, ht, hu⟩ := hv
  have hlen : vs.length = is.length := by
    have : ∀ (is : List Nat) (vs : List V) (loc : Loc), sets is vs loc k = true → vs.length = is.length := by
      intro is
      induction is with
      | nil => intro vs loc h; cases vs <;> first | rfl | cases h
      | cons i is ih =>
        intro vs loc h
        cases vs with
        | nil => cases h
        | cons v r =>
          have h : setK v loc i (fun l => sets is r l k) = true := h
          rw [setK_eq] at h
          rw [List.length_cons, List.length_cons, ih r _ h]
    exact this is vs loc hk
  refine assign_Tuple_tuple hh ht (by rw [each_len, hl, List.size_toArray, hu.length, hlen]) (each_star _ _ fun j x hj => by obtain ⟨i, nm, p, _, _, e⟩ := he j x hj; exact ⟨nm, p, e⟩) fun h' hx => ?_
  have kp : ∀ b ob, s.heap.get? b = some ob → h'.get? b = some ob := fun b o e => hx b o (Nat.ne_of_lt (Heap.lt_size e)) e
  have st1 : Step φ φ s { s with heap := h' } := Step.same kp rfl rfl rfl
  have r1 := S.hr.grow kp
  have S1 : SR G f φ η L loc { s with heap := h' } := S.step st1 r1
  exact sets_wp ok is vs us elts φ η loc _ k Q he hl S1 (hu.st (List.prefix_refl _) (S.st st1)) hk fun loc' s' S' st' hk' => q loc' s' S' (st1.l.trans st' S S1) hk'
theorem ss_unpack {is : List Nat} {elts : List Expr} {j : Nat} {m : XE} {e : Expr} {p pos : Pos} (ok : f.Ok)
    (he : ∀ (j : Nat) (x : Expr), elts[j]? = some x → ∃ (i : Nat) (nm : Str) (p : Pos), is[j]? = some i ∧ f.names[i]? = some nm ∧ x = Expr.Name nm p) (hl : elts.length = is.length) (h₁ : ES G f n m e)
    (hs : ∀ env, swapsWithSole [.Tuple elts j p] e pos.line env = pure false := by intro _; rfl)
    (hw : ∀ env, swappedStores [.Tuple elts j p] e env = pure none := by intro _; rfl) : SS G f n (sunpack is m) (.Assign [.Tuple elts j p] e pos) := by
  intro A L φ η loc s kn kr kb kc hA S h
  refine Assign_Tuple (hs := hs _) (hw := hw _) (h₁.thenS hA S h fun u v η1 φ1 s1 hk hv st S1 => ?_)
  obtain ⟨vs, rfl, hk1⟩ := asTup_of hk
  exact tup_wp ok hA.handled he hl S1 hv hk1 fun loc' s' S' st' hk' => ⟨φ1, η1, st.l.trans st' S S1, loc', S', hk'⟩

-- simple statements
theorem ss_expr {m : XE} {e : Expr} {pos : Pos} (h₁ : ES G f n m e) (hi : ∀ L, interactive (f.env L) = false) (hs : ∀ env, swapsWith e none pos.line env = pure false := by intro _; rfl) : SS G f n (sexpr m) (.Expr e pos) := by
  intro A L φ η loc s kn kr kb kc hA S h
  refine wpAny_Expr_any (h₁.thenS hA S h fun u v η1 φ1 s1 hk hv st S1 => ?_) (hi L) (hs _)
  exact ⟨φ1, η1, st.l, loc, S1, hk⟩
theorem ss_pass {pos : Pos} : SS G f n spass (.Pass pos) := fun A L φ η loc s kn kr kb kc hA S h => wpAny_Pass ⟨φ, η, StepL.refl _ _, loc, S, h⟩
theorem ss_break {pos : Pos} : SS G f n sbreak (.Break pos) := fun A L φ η loc s kn kr kb kc hA S h => wpAny_Break ⟨φ, η, StepL.refl _ _, loc, S, h⟩
theorem ss_cont {pos : Pos} : SS G f n scont (.Continue pos) := fun A L φ η loc s kn kr kb kc hA S h => wpAny_Continue ⟨φ, η, StepL.refl _ _, loc, S, h⟩
theorem ss_ret {m : XE} {e : Expr} {pos : Pos} (h₁ : ES G f n m e) : SS G f n (sret m) (.Return (some e) pos) := by
  intro A L φ η loc s kn kr kb kc hA S h
  refine wpAny_Return_some (h₁.thenS hA S h fun u v η1 φ1 s1 hk hv st S1 => ?_)
  exact ⟨φ1, η1, st.l, v, S1.hr, hv, hk⟩
theorem ss_if {c : XE} {a b : XS} {e : Expr} {body orelse : List Stmt} {pos : Pos} (h₁ : TS G f n c e) (h₂ : BS G f n a body) (h₃ : BS G f n b orelse) : SS G f n (sif c a b) (.If e body orelse pos) := by
  intro A L φ η loc s kn kr kb kc hA S h
  refine wpAny_If (wpAny_mono (h₁ A L φ η loc s (fun t h => bcase t (a loc h kn kr kb kc) (b loc h kn kr kb kc)) hA S h) (fun t s1 x => ?_) fun _ _ z => z)
  obtain ⟨η1, φ1, k, st, r1⟩ := x
  have S1 := S.step st r1
  cases t with
  | true => exact wpAny_mono (h₂ A L φ1 η1 loc s1 kn kr kb kc hA S1 k) (fun fl s'' z => PostS.from st.l S S1 z) fun _ _ z => z
  | false => exact wpAny_mono (h₃ A L φ1 η1 loc s1 kn kr kb kc hA S1 k) (fun fl s'' z => PostS.from st.l S S1 z) fun _ _ z => z
end
end Kp
end
-- part KpStmt2
section
set_option autoImplicit false
set_option linter.unusedVariables false
namespace Kp
open PySem PySem.W PyProof.Rows PySem.Calls

section
variable {G : Base} {f : Fx} {n : Nat} {A : Around} {E : Value → Shared → Prop}
-- an item of a list
theorem set_listP {s : Shared} {l : Addr} {us : Array Value} {k : Int} {t : Tok} {v : Value} {Q : Unit → Shared → Prop} (hl : PlainL s.heap l us) (h0 : 0 ≤ k) (hfit : k < 2 ^ 63) (hn : k < us.size)
    (hQ : ∀ h', PlainL h' l (us.setIfInBounds k.toNat v) → Heap.SameBut l s.heap h' → Q () { s with heap := h' }) : wpAny G.M A (setItem (.ref l) (.int k t) v) Q E s := by
  obtain ⟨o, m, ho, hc, hdn, hd⟩ := id hl
  unfold setItem
  try with_reducible refine wpAny_holding ?_
  first | refine wpAny_bind (wpAny_pure ?_) | skip
  refine wpAny_bind (wpAny_sequenceKey hl.isList.typeIs (by decide) ?_)
  refine wpAny_bind (wpAny_callSpecial?_slot (name := Str.ofString "__setitem__") hl.isList.typeIs slot_list_setitem
    (wpAny_call_entry slot_list_setitem hl.isList.typeIs entry_list_setitem ?_ (args_list_setitem _ _ _)))
  show wpAny _ _ (Builtin.List.listSubscript? (.int k t) >>= _) _ _ s
  refine wpAny_bind (wpAny_listSubscript_int (fitsIndex_of h0 hfit) ?_)
  clear hfit
  obtain ⟨j, rfl⟩ := Int.eq_ofNat_of_zero_le h0
  have hj : j < us.size := by omega
  have hx' : us[j]? = some us[j] := Array.getElem?_eq_getElem hj
  show wpAny _ _ ((seqItemAt l j >>= fun r => pure (r.map (j, ·))) >>= _) _ _ s
  refine wpAny_bind (wpAny_bind (wpAny_seqItemAt ho hd (wpAny_pure ?_)))
  rw [hx']
  show wpAny _ _ (setSeqItemAt l j v >>= _) _ _ s
  obtain ⟨n', hd'⟩ := Obj.data_mapSeq hd (·.setIfInBounds j v)
  have hfin : PlainL (s.heap.update l (Obj.mapSeq (·.setIfInBounds j v))) l (us.setIfInBounds j v) := by
    refine ⟨_, n', Heap.get?_update_self _ ho (Obj.isFreed_of_seq hd'), (Obj.cls_mapSeq ..).trans hc, ?_, hd'⟩
    obtain ⟨c, d, dt, sl⟩ := o
    subst hd
    exact hdn
  refine wpAny_bind (wpAny_setSeqItemAt ho hd ?_)
  first
    | exact wpAny_bind (wpAny_pure (wpAny_pure ⟨.none, rfl, wpAny_pure (hQ _ hfin (Heap.SameBut.update ..))⟩))
    | exact wpAny_pure ⟨.none, rfl, wpAny_pure (hQ _ hfin (Heap.SameBut.update ..))⟩

-- an item of a dict of tuples
theorem set_dictP {s : Shared} {d a : Addr} {k : List Int} {xs : List (List Int × Addr × Value)} {ep : Nat} {v : Value} {Q : Unit → Shared → Prop} (hu : G.knd.room A.in1) (hkey : G.knd.is s.heap k a)
    (ho : s.heap.get? d = some { cls := .type "dict", data := .dict (List.toArray (xs.map (entryOfKey G.knd))) ep }) (his : ∀ x ∈ xs, G.knd.is s.heap x.1 x.2.1) (hn : (xs.map (·.1)).Nodup)
    (hnew : (∀ (j : Nat) (p : Addr × Value), xs[j]? ≠ some (k, p)) → ∀ h', h'.get? d = some { cls := .type "dict", data := .dict (List.toArray ((xs ++ [(k, a, v)]).map (entryOfKey G.knd))) (ep + 1) } → Heap.SameBut d s.heap h' → Q () { s with heap := h', toks := s.toks + G.knd.draws k })
    (hold : ∀ (j : Nat) (p : Addr × Value), xs[j]? = some (k, p) → ∀ h', h'.get? d = some { cls := .type "dict", data := .dict (List.toArray ((xs.map (putAt k v)).map (entryOfKey G.knd))) ep } → Heap.SameBut d s.heap h' → Q () { s with heap := h', toks := s.toks + G.knd.draws k })
    (hsz : (∀ (j : Nat) (p : Addr × Value), xs[j]? ≠ some (k, p)) → xs.length ≤ 1000000) : wpAny G.M A (setItem (.ref d) (.ref a) v) Q E s := by
  have hm : s.heap.DictOfH G.knd d xs := ⟨_, _, ep, ho, ⟨rfl, rfl, rfl⟩, rfl, by simp, his, hn⟩
  unfold setItem
  try with_reducible refine wpAny_holding ?_
  refine wpAny_bind (wpAny_sequenceKey hm.typeIs (by decide) ?_)
  refine wpAny_bind (wpAny_callSpecial?_slot (name := Str.ofString "__setitem__") hm.typeIs slot_dict_setitem
    (wpAny_call_entry slot_dict_setitem hm.typeIs entry_dict_setitem ?_ (args_dict_setitem _ _ _)))
  show wpAny _ _ (Builtin.Dict.notOrdered "__setitem__" ⟨[.ref d, .ref a, v], []⟩ >>= _) _ _ s
  refine wpAny_bind (wpAny_notOrdered_dict hm.typeIs ?_)
  show wpAny _ _ (dictSet d (.ref a) v >>= _) _ _ s
  refine wpAny_bind ?_
  unfold dictSet
  try with_reducible refine wpAny_holding ?_
  refine wpAny_bind (G.knd.pyHash hu hkey ?_)
  unfold dictSetHashed
  try with_reducible refine wpAny_holding ?_
  refine wpAny_bind (wpAny_dictFind_heap (s := { s with toks := s.toks + G.knd.draws k }) (xs := xs) hu hkey ho rfl (by simp) his hn (fun hno => ?_) (fun j p hj => ?_))
  · refine wpAny_bind (wpAny_rule (wpAny_updateDictKeys (hz := by rw [List.size_toArray, List.length_map, sizeLine_eq]; have := hsz hno; omega) (s := { s with toks := s.toks + G.knd.draws k }) ho rfl
      (wpAny_pure ⟨.none, rfl, wpAny_pure (hnew hno _ ?_ (Heap.SameBut.update ..))⟩)))
    rw [Heap.get?_update_self _ ho rfl]
    simp [Obj.mapDictKeys, entryOfKey]
  · refine wpAny_bind (wpAny_rule (wpAny_bind (wpAny_updateDict (s := { s with toks := s.toks + G.knd.draws k }) ho rfl (wpAny_point (wpAny_pure ⟨.none, rfl, wpAny_pure (hold j p hj _ ?_ (Heap.SameBut.update ..))⟩)))))
    rw [Heap.get?_update_self _ ho rfl]
    have := modify_map_putAt (entryOfKey G.knd) (fun e : DictEntry => { e with val := v }) k v (fun _ _ => rfl) hn hj
    simp [Obj.mapDict, ← this]

-- an field of an record
theorem set_attrP {s : Shared} {x d : Addr} {es : List DictEntry} {m : Nat} {nm : Str} {v : Value} {Q : Unit → Shared → Prop} (X : G.K.In s.heap) (I : InstAt s.heap x (instObj G.C d) G.C (some (dictOf es m))) (hn : nm ∈ fieldNames)
    (hk : (getL nm es).isSome = true) (hz : es.length ≤ 1000)
    (h : ∀ tk h', h'.get? d = some (dictOf (putL nm (PyData.keyHash G.w.params nm) (.str nm tk) v es) (putN nm es m)) → Heap.SameBut d s.heap h' → Q () { s with heap := h', toks := s.toks + 2 }) :
    wpAny G.M A (setAttr (.ref x) nm v) Q E s := by
  refine set_plain (X) I G.cset ?_
  refine osa_open (s := { s with toks := s.toks + 1 }) X I G.cover (G.ctake nm hn) fun b => ?_
  obtain ⟨cd, hc, hd'⟩ := any_some G.cdict
  obtain ⟨hx, hcl, hdn, hD⟩ := I
  have D : s.heap.get? d = some (dictOf es m) := hD
  refine wpAny_bind (wpAny_pure (wpAny_bind (wpAny_bind (wpAny_loadPart (s := { s with toks := s.toks + 1 }) hx (wpAny_bind (Looks.here (s := { s with toks := s.toks + 1 }) (looks_clsIn X hc) ?_))))))
  rw [hd']
  refine wpAny_pure (a := some d) (wpAny_bind (wpAny_pure (wpAny_bind ?_)))
  unfold nsSet
  refine wpAny_bind (wpAny_bind (wpAny_askSetting (wpAny_pure (wpAny_bind (wpAny_mkText (wpAny_bind (wpAny_loadPart (s := { s with toks := s.toks + 1 + 1 }) D ?_)))))))
  dsimp only
  have c : (!es.toArray.any (·.key.isStr nm) && es.toArray.any (·.refKey)) = false := by
    rw [← Array.any_toList, ← Array.any_toList]
    unfold getL at hk
    split at hk
    · rename_i en he
      rw [List.any_eq_true.mpr ⟨en, List.mem_of_find?_eq_some he, List.find?_some he⟩]; rfl
    · split at hk
      · cases hk
      · rename_i z; rw [Bool.not_eq_true] at z
        show (_ && es.any _) = false
        rw [z, Bool.and_false]
  rw [aRefKeyMayBeTheName_at, c]
  have e : Obj.putName nm (PyData.keyHash G.w.params nm) (.str nm (s.toks + 1)) v (dictOf es m) = dictOf (putL nm (PyData.keyHash G.w.params nm) (.str nm (s.toks + 1)) v es) (putN nm es m) := putName_dict ..
  have hlen : ∀ (hh : Int) (ky vv : Value) (es : List DictEntry), (putL nm hh ky vv es).length ≤ es.length + 1 := by
    intro hh ky vv es
    induction es with
    | nil => exact Nat.le_refl _
    | cons a r ih => unfold putL; split <;> simp <;> omega
  have D' : (s.heap.update d (Obj.putName nm (PyData.keyHash G.w.params nm) (.str nm (s.toks + 1)) v)).get? d = some (dictOf (putL nm (PyData.keyHash G.w.params nm) (.str nm (s.toks + 1)) v es) (putN nm es m)) := by
    rw [Heap.get?_update_self _ D (by rw [e]; rfl), e]
  refine wpAny_updatePart (s := { s with toks := s.toks + 1 + 1 }) D ?_
  refine wpAny_bind (wpAny_lookBehind D' (pastItsLine_dict (by rw [List.size_toArray, sizeLine_eq]; have := hlen (PyData.keyHash G.w.params nm) (.str nm (s.toks + 1)) v es; omega)) ?_)
  exact wpAny_pure (h _ _ D' (Heap.SameBut.update ..))
end
end Kp
end
-- part KpStmt3
section
set_option autoImplicit false
set_option linter.unusedVariables false
namespace Kp
open PySem PySem.W PyProof.Rows PySem.Calls

theorem store_eq (o : AO) (n : Nat) (η : H) (k : H → Bool) : store o n η k = bcase (Nat.ble η.r n) (k ⟨η.t.put o n, η.n, η.r⟩) false := by cases η; rfl
theorem storeS_eq (o : SO) (n : Nat) (η : H) (k : H → Bool) : storeS o n η k = bcase (Nat.ble η.r n) (k ⟨η.t.putS o n, η.n, η.r⟩) false := by cases η; rfl
noncomputable def dset (v : V) : List (V × V) → Nat → List (V × V)
  | [], _ => []
  | p :: r, 0 => (p.1, v) :: r
  | p :: r, i + 1 => p :: dset v r i
theorem dsetK_eq (v : V) : ∀ (kvs : List (V × V)) (i : Nat) (k : List (V × V) → Bool), dsetK v kvs i k = k (dset v kvs i)
  | [], _, _ => rfl
  | (a, b) :: r, 0, _ => rfl
  | p :: r, i + 1, k => by
    show dsetK v r i (fun ys => k (p :: ys)) = _
    rw [dsetK_eq v r i]; rfl
theorem dsnocK_eq (p : V × V) : ∀ (kvs : List (V × V)) (k : List (V × V) → Bool), dsnocK p kvs k = k (kvs ++ [p])
  | [], _ => rfl
  | x :: r, k => by
    show dsnocK p r (fun ys => k (x :: ys)) = _
    rw [dsnocK_eq p r]; rfl
theorem lenD_aux : ∀ (xs : List (V × V)) (n : Nat), @List.rec (V × V) (fun _ => Nat → Nat) (fun n => n) (fun _ _ ih n => ih (Nat.succ n)) xs n = n + xs.length
  | [], n => rfl
  | x :: r, n => by
    show @List.rec (V × V) (fun _ => Nat → Nat) (fun n => n) (fun _ _ ih n => ih (Nat.succ n)) r (Nat.succ n) = _
    rw [lenD_aux r]; simp; (first | lia | omega)
theorem lenD_eq (xs : List (V × V)) : lenD xs = xs.length := by
  have := lenD_aux xs 0
  unfold lenD; rw [this]; (first | lia | omega)

section
variable {G : Base} {f : Fx} {n : Nat}
theorem DR.length {φ : Phi} {h : Heap} : ∀ {kvs : List (V × V)} {xs : List (List Int × Addr × Value)}, DR G φ h kvs xs → kvs.length = xs.length
  | [], xs, r => by rw [show xs = [] from r]; rfl
  | _ :: _, xs, ⟨q, y, s, e, _, _, _, r⟩ => by rw [e, List.length_cons, List.length_cons, r.length]
theorem DR.snoc {φ : Phi} {h : Heap} {q : List V} {a : Addr} {v : V} {u : Value} (ka : allInts q = true) (ki : G.knd.is h (intsOf q) a) (hv : VR φ h v u) :
    ∀ {kvs : List (V × V)} {xs : List (List Int × Addr × Value)}, DR G φ h kvs xs → DR G φ h (kvs ++ [(.tup q, v)]) (xs ++ [(intsOf q, a, u)])
  | [], xs, r => by
    rw [show xs = [] from r]
    refine ⟨intsOf q, (a, u), [], rfl, ?_, ki, hv, rfl⟩
    show V.tup q = .tup ((intsOf q).map V.int)
    rw [← allInts_eq ka]
  | p :: kvs, xs, ⟨ks, y, s, e, a1, a2, a3, r⟩ => by
    subst e
    exact ⟨ks, y, s ++ [(intsOf q, a, u)], rfl, a1, a2, a3, DR.snoc ka ki hv r⟩
theorem DR.set {φ : Phi} {h : Heap} {k : List Int} {v : V} {u : Value} (hv : VR φ h v u) :
    ∀ {kvs : List (V × V)} {xs : List (List Int × Addr × Value)} {j : Nat} {p : Addr × Value}, DR G φ h kvs xs → (xs.map (·.1)).Nodup → xs[j]? = some (k, p) → DR G φ h (dset v kvs j) (xs.map (putAt k u))
  | [], xs, j, p, r, hn, e => by rw [show xs = [] from r] at e; simp at e
  | q :: kvs, xs, j, p, ⟨ks, y, s, e1, a1, a2, a3, r⟩, hn, e => by
    subst e1
    rw [List.map_cons, List.nodup_cons] at hn
    cases j with
    | zero =>
      simp only [List.getElem?_cons_zero, Option.some.injEq, Prod.mk.injEq] at e
      obtain ⟨e, rfl⟩ := e
      subst e
      have h1 : ks ∉ s.map (·.1) := hn.1
      rw [List.map_cons, map_putAt_of_not_mem s ks u h1]
      refine ⟨ks, (y.1, u), s, ?_, a1, a2, hv, r⟩
      unfold putAt; rw [if_pos rfl]
    | succ j =>
      simp only [List.getElem?_cons_succ] at e
      have : ks ≠ k := by
        rintro rfl
        exact hn.1 (List.mem_map.mpr ⟨_, List.mem_of_getElem? e, rfl⟩)
      refine ⟨ks, y, s.map (putAt k u), ?_, a1, a2, a3, DR.set hv r hn.2 e⟩
      rw [List.map_cons]
      unfold putAt; rw [if_neg this]

-- an item of a list or of a dict
theorem item_put {A : Around} {L : Addr} {φ : Phi} {η : H} {loc : Loc} {s : Shared} {nn : Nat} {x v : V} {ux uv uo : Value} {k : H → Bool} {Q : Unit → Shared → Prop} (hA : Room A n) (S : SR G f φ η L loc s)
    (ho : VR φ s.heap (.ref nn) uo) (hx : VR φ s.heap x ux) (hv : VR φ s.heap v uv)
    (h : objCase (getT η nn) (fun xs => asNat x fun j => bcase (Nat.ble j (nat_lit 1000000)) (bcase (ltLen xs j) (setK v xs j fun xs => store (.list xs) nn η k) false) false)
      (fun ep kvs => asKey x fun q => dfind q kvs (bcase (Nat.ble (lenD kvs) (nat_lit 1000000)) (dsnocK (x, v) kvs fun kvs => store (.dict (Nat.succ ep) kvs) nn η k) false) (nat_lit 0) fun j _ => dsetK v kvs j fun kvs => store (.dict ep kvs) nn η k)
      (fun _ => false) = true)
    (q : ∀ η' s', Step φ φ s s' → SR G f φ η' L loc s' → k η' = true → Q () s') : wpAny G.M A (setItem uo ux uv) Q NoE s := by
  obtain ⟨a, d, ej, rfl⟩ := ho
  rw [getT_eq] at h
  rcases obj_of h with ⟨xs, eo, h1⟩ | ⟨ep, kvs, eo, h1⟩ | ⟨fs, eo, h1⟩
  · obtain ⟨j, rfl, h2⟩ := asNat_of h1
    obtain ⟨hb, h3⟩ := bc_of h2
    have hb : j ≤ 1000000 := Nat.le_of_ble_eq_true hb
    obtain ⟨hl, h4⟩ := bc_of h3
    rw [ltLen_eq] at hl
    have hl := of_decide_eq_true hl
    rw [setK_eq, store_eq] at h4
    obtain ⟨hro, h4⟩ := bc_of h4
    have hro : η.r ≤ nn := Nat.le_of_ble_eq_true hro
    have hrr := S.hr.ror
    obtain ⟨t, rfl⟩ := VR.int hx
    obtain ⟨rfl, us, hp, hu⟩ := S.hr.list ej eo
    have hlen := hu.length
    refine set_listP hp (by simp) (by show (j : Int) < 2 ^ 63; (first | lia | omega)) (by rw [List.size_toArray, hlen]; show (j : Int) < _; (first | lia | omega)) fun h' hp' hs => ?_
    have st : Step φ φ s { s with heap := h' } := Step.turn (List.mem_of_getElem? ej) (fun b q => hs.2 b q) rfl rfl rfl
    have sto : St s.heap h' := st.st S.hr
    have r : HR G φ ⟨η.t.put (.list (setV v xs j)) nn, η.n, η.r⟩ h' := by
      refine S.hr.turn ej (fun b q => hs.2 b q) (hrr ▸ hro) ⟨rfl, us.set j uv, ?_, (hu.st (List.prefix_refl _) sto).set (hv.st (List.prefix_refl _) sto)⟩
      have : (us.set j uv).toArray = us.toArray.setIfInBounds (Int.ofNat j).toNat uv := by simp
      rw [this]; exact hp'
    exact q _ _ st (S.step st r) h4
  · obtain ⟨key, rfl, ka, h2⟩ := asKey_of h1
    obtain ⟨t, rfl, hk⟩ := tupKey_of (G := G) hx ka
    obtain ⟨rfl, xs, ho, hn, hd⟩ := S.hr.dict ej eo
    have hlen := hd.length
    have hall := hd.is
    rcases dfind_of ka hd h2 with ⟨c, h3⟩ | ⟨jj, b, w, z, e1, e2, hr, h3⟩
    · obtain ⟨hb, h4⟩ := bc_of h3
      have hb : lenD kvs ≤ 1000000 := Nat.le_of_ble_eq_true hb
      rw [lenD_eq] at hb
      rw [dsnocK_eq, store_eq] at h4
      obtain ⟨hro, h4⟩ := bc_of h4
      have hro : η.r ≤ nn := Nat.le_of_ble_eq_true hro
      have hrr := S.hr.ror
      refine set_dictP (tupleKind_room_in1 (by have := hA.units; (first | lia | omega))) hk ho hall hn (fun hno h' ho' hs => ?_) (fun j p hj h' ho' hs => ?_) (fun _ => by (first | lia | omega))
      · have st : Step φ φ s { s with heap := h', toks := s.toks + G.knd.draws (intsOf key) } := Step.turn (List.mem_of_getElem? ej) (fun b q => hs.2 b q) rfl rfl rfl
        have sto : St s.heap h' := st.st S.hr
        have r : HR G φ ⟨η.t.put (.dict (Nat.succ ep) (kvs ++ [(.tup key, v)])) nn, η.n, η.r⟩ h' := by
          refine S.hr.turn ej (fun b q => hs.2 b q) (hrr ▸ hro) ⟨rfl, xs ++ [(intsOf key, t, uv)], ho', ?_, ?_⟩
          · rw [List.map_append, List.nodup_append]
            refine ⟨hn, by simp, fun y hy z hz => ?_⟩
            simp only [List.map_cons, List.map_nil, List.mem_singleton] at hz
            subst hz
            rintro rfl
            obtain ⟨p, hp, e⟩ := List.mem_map.mp hy
            obtain ⟨i, hi⟩ := List.mem_iff_getElem?.mp hp
            exact hno i p.2 (by rw [hi, ← e])
          · have hk' : G.knd.is h' (intsOf key) t := by
              obtain ⟨o, it, m, ho1, hc, hd1, hi⟩ := hk
              exact ⟨o, it, m, sto _ _ ho1 (.inl ⟨hc, _, m, hd1⟩), hc, hd1, hi⟩
            exact DR.snoc ka hk' (hv.st (List.prefix_refl _) sto) (hd.st (List.prefix_refl _) sto)
        exact q _ _ st (S.step st r) h4
      · rw [atKey_of_get hn hj] at c; cases c
    · rw [dsetK_eq, store_eq] at h3
      obtain ⟨hro, h3⟩ := bc_of h3
      have hro : η.r ≤ nn := Nat.le_of_ble_eq_true hro
      have hrr := S.hr.ror
      refine set_dictP (tupleKind_room_in1 (by have := hA.units; (first | lia | omega))) hk ho hall hn (fun hno h' ho' hs => ?_) (fun j p hj h' ho' hs => ?_) (fun hno => absurd e1 (hno _ _))
      · exact absurd e1 (hno _ _)
      · have hjj : j = jj := idxH_unique hn hj e1
        subst hjj
        have st : Step φ φ s { s with heap := h', toks := s.toks + G.knd.draws (intsOf key) } := Step.turn (List.mem_of_getElem? ej) (fun b q => hs.2 b q) rfl rfl rfl
        have sto : St s.heap h' := st.st S.hr
        have r : HR G φ ⟨η.t.put (.dict ep (dset v kvs j)) nn, η.n, η.r⟩ h' := by
          refine S.hr.turn ej (fun b q => hs.2 b q) (hrr ▸ hro) ⟨rfl, xs.map (putAt (intsOf key) uv), ho', by rw [keys_map_putAt]; exact hn, ?_⟩
          exact DR.set (hv.st (List.prefix_refl _) sto) (hd.st (List.prefix_refl _) sto) hn hj
        have h3 : k ⟨η.t.put (.dict ep (dset v kvs (0 + j))) nn, η.n, η.r⟩ = true := h3
        rw [Nat.zero_add] at h3
        exact q _ _ st (S.step st r) h3
  · cases h1
end
end Kp
end
-- part KpStmt4
section
set_option autoImplicit false
set_option linter.unusedVariables false
namespace Kp
open PySem PySem.W PyProof.Rows PySem.Calls

section
variable {G : Base} {f : Fx} {n : Nat}
theorem item_putS {A : Around} {L : Addr} {φ : Phi} {η : H} {loc : Loc} {s : Shared} {nn : Nat} {x v : V} {ux uv uo : Value} {k : H → Bool} {Q : Unit → Shared → Prop} (hA : Room A n) (S : SR G f φ η L loc s)
    (ho : VR φ s.heap (.ref nn) uo) (hx : VR φ s.heap x ux) (hv : VR φ s.heap v uv)
    (h : soCase (getS η nn) (fun o => objCase o (fun xs => asNat x fun j => bcase (Nat.ble j (nat_lit 1000000)) (bcase (ltLen xs j) (setK v xs j fun xs => store (.list xs) nn η k) false) false)
      (fun ep kvs => asKey x fun q => dfind q kvs (bcase (Nat.ble (lenD kvs) (nat_lit 1000000)) (dsnocK (x, v) kvs fun kvs => store (.dict (Nat.succ ep) kvs) nn η k) false) (nat_lit 0) fun j _ => dsetK v kvs j fun kvs => store (.dict ep kvs) nn η k)
      (fun _ => false))
      (fun p len => asNat x fun j => bcase (Nat.ble j (nat_lit 1000000)) (bcase (Nat.ble (Nat.succ j) len) (small16 v fun m => forceN (setP p (Nat.pow (nat_lit 65536) j) m) fun p => storeS (.pk p len) nn η k) false) false) = true)
    (q : ∀ η' s', Step φ φ s s' → SR G f φ η' L loc s' → k η' = true → Q () s') : wpAny G.M A (setItem uo ux uv) Q NoE s := by
  have eT : getT η nn = SO.view (getS η nn) := rfl
  cases es : getS η nn with
  | ob o =>
    rw [es] at h eT
    refine item_put hA S ho hx hv ?_ q
    rw [eT]
    exact h
  | pk p len =>
    rw [es] at h eT
    obtain ⟨j, rfl, h1⟩ := asNat_of h
    obtain ⟨hb, h2⟩ := bc_of h1
    obtain ⟨hl, h3⟩ := bc_of h2
    unfold small16 at h3
    obtain ⟨m, rfl, h4⟩ := asNat_of h3
    obtain ⟨hm, h5⟩ := bc_of h4
    have h5 : forceN (setP p (Nat.pow (nat_lit 65536) j) m) (fun p => storeS (SO.pk p len) nn η k) = true := h5
    rw [forceN_eq, storeS_eq] at h5
    obtain ⟨hr, h6⟩ := bc_of h5
    have hl : j < len := Nat.le_of_ble_eq_true hl
    have hm : m < 65536 := Nat.le_of_ble_eq_true hm
    classical
    refine item_put (k := fun η' => decide (η' = ⟨η.t.put (.list (unpk len (setP p (65536 ^ j) m))) nn, η.n, η.r⟩)) hA S ho hx hv ?_ fun η' s' st S' z => ?_
    · rw [eT]
      show bcase (Nat.ble j (nat_lit 1000000)) (bcase (ltLen (unpk len p) j) (setK (.int (.ofNat m)) (unpk len p) j fun xs => store (.list xs) nn η fun η' => decide (η' = ⟨η.t.put (.list (unpk len (setP p (65536 ^ j) m))) nn, η.n, η.r⟩)) false) false = true
      rw [show Nat.ble j (nat_lit 1000000) = true from hb, ltLen_eq, unpk_len, decide_eq_true hl, setK_eq, store_eq, hr, ← unpk_set len p j m hl hm]
      exact decide_eq_true rfl
    · have z := of_decide_eq_true z
      subst z
      exact q ⟨η.t.putS (.pk (setP p (65536 ^ j) m) len) nn, η.n, η.r⟩ s' st (S'.step (Step.refl _ _) (S'.hr.view (fun i => tget_same (.pk (setP p (65536 ^ j) m) len) η.t nn i) rfl rfl)) h6
theorem ss_ssub {m₁ m₂ m₃ : XE} {eo ei ev : Expr} {p pos : Pos} (h₁ : ES G f n m₁ eo) (h₂ : ES G f n m₂ ei) (h₃ : ES G f n m₃ ev)
    (hs : ∀ env, swapsWith ev (some (.Subscript eo ei p)) pos.line env = pure false := by intro _; rfl) : SS G f n (ssub m₁ m₂ m₃) (.Assign [.Subscript eo ei p] ev pos) := by
  intro A L φ η loc s kn kr kb kc hA S h
  refine wpAny_Assign_Subscript (hs := hs _) (h₃.thenS hA S h fun u v η1 φ1 s1 hk hv st S1 => ?_)
  refine h₁.thenS hA S1 hk fun uo vo η2 φ2 s2 hk2 hvo st2 S2 => ?_
  refine h₂.thenS hA S2 hk2 fun ui vi η3 φ3 s3 hk3 hvi st3 S3 => ?_
  obtain ⟨nn, rfl, hk4⟩ := asRef_of hk3
  have v3 := (hv.st st2.pre (S1.st st2)).st st3.pre (S2.st st3)
  refine item_putS hA S3 (hvo.st st3.pre (S2.st st3)) hvi v3 hk4 fun η4 s4 st4 S4 q => ?_
  exact ⟨φ3, η4, (((st.trans st2 S.hr S1.hr).trans st3 S.hr S2.hr).trans st4 S.hr S3.hr).l, loc, S4, q⟩
theorem ss_saugsub {m₁ m₂ m₃ : XE} {o : Op} {op : Operator} {eo ei ev : Expr} {p pos : Pos} (ho : IopOk G o op) (h₁ : ES G f n m₁ eo) (h₂ : ES G f n m₂ ei) (h₃ : ES G f n m₃ ev)
    (ha : ∀ ov iv new, augStore ei ov iv new = (do holding [new, ov, iv] (setItem ov iv new); release [new, ov, iv] []; pure .next) := by intro _ _ _; rfl) :
    SS G f n (saugsub m₁ m₂ o m₃) (.AugAssign (.Subscript eo ei p) op ev pos) := by
  intro A L φ η loc s kn kr kb kc hA S h
  refine wpAny_AugAssign_Subscript_any (ha := ha) (h₁.thenS hA S h fun uo vo η1 φ1 s1 hk hvo st S1 => ?_)
  refine h₂.thenS hA S1 hk fun ui vi η2 φ2 s2 hk2 hvi st2 S2 => ?_
  obtain ⟨nn, xs, rfl, eo, hk3⟩ := asList_of hk2
  obtain ⟨j, rfl, hk4⟩ := asNat_of hk3
  obtain ⟨hb, hk5⟩ := bc_of hk4
  have hb : j ≤ 1000000 := Nat.le_of_ble_eq_true hb
  obtain ⟨hu, hk6⟩ := known_of hk5
  obtain ⟨t, rfl⟩ := VR.int hvi
  have hvo2 := hvo.st st2.pre (S1.st st2)
  obtain ⟨a, d, ej, rfl⟩ := hvo2
  obtain ⟨rfl, us, hp, hus⟩ := S2.hr.list ej eo
  obtain ⟨w, hw, hr⟩ := hus.get (getV_some hu)
  refine wpAny_getItem_list hp.isList (by simp) (by show (j : Int) < 2 ^ 63; (first | lia | omega)) (by simpa using hw) ?_
  refine h₃.thenS hA S2 hk6 fun uv vv η3 φ3 s3 hk7 hvv st3 S3 => ?_
  obtain ⟨nn', xs', e1, eo', hk8⟩ := asList_of hk7
  cases e1
  obtain ⟨ia, ea, hk9⟩ := asInt_of hk8
  obtain ⟨ib, rfl, hk10⟩ := asInt_of hk9
  have hr3 := hr.st st3.pre (S2.st st3)
  rw [ea] at hr3
  obtain ⟨t0, rfl⟩ := VR.int hr3
  obtain ⟨t1, rfl⟩ := VR.int hvv
  refine ho.at_ _ _ _ _ _ _ _ _ hk10 fun c tk tk' hc => ?_
  have S3' : SR G f φ3 η3 L loc { s3 with toks := tk' } := S3.step (Step.same (fun _ _ e => e) rfl rfl rfl) S3.hr
  have st4 : Step φ3 φ3 s3 { s3 with toks := tk' } := Step.same (fun _ _ e => e) rfl rfl rfl
  refine item_put (x := .int (.ofNat j)) (v := .int c) (k := fun h => kn loc h) hA S3' ⟨a, a, pre_get st3.pre ej, rfl⟩ ⟨_, rfl⟩ ⟨_, rfl⟩ ?_ fun η4 s4 st5 S4 q => ?_
  · rw [getT_eq, eo']
    show bcase (Nat.ble j (nat_lit 1000000)) _ false = true
    rw [show Nat.ble j (nat_lit 1000000) = true from Nat.ble_eq_true_of_le hb]
    exact hc
  · exact ⟨φ3, η4, ((((st.trans st2 S.hr S1.hr).trans st3 S.hr S2.hr).trans st4 S.hr S3.hr).trans st5 S.hr S3'.hr).l, loc, S4, q⟩

-- an field
theorem isStr_str (x nm : Str) (t : Tok) : (Value.str x t).isStr nm = (x == nm) := rfl
theorem getL_of_keys {es : List DictEntry} (hk : ∀ e ∈ es, ∃ x t, e.key = .str x t) (nm : Str) : getL nm es = some ((es.find? (·.key.isStr nm)).map (·.val)) := by
  unfold getL
  cases e : es.find? (·.key.isStr nm) with
  | some z => rfl
  | none =>
    have : es.any (·.refKey) = false := by
      rw [Bool.eq_false_iff]
      intro h
      obtain ⟨z, hz, h⟩ := List.any_eq_true.mp h
      obtain ⟨x, t, hx⟩ := hk z hz
      unfold DictEntry.refKey at h
      rw [hx] at h
      cases h
    dsimp only
    rw [this]; rfl
theorem find_putL {nm : Str} {hsh : Int} {tk : Tok} {v : Value} (y : Str) : ∀ (es : List DictEntry), (∀ e ∈ es, ∃ x t, e.key = .str x t) →
    ((putL nm hsh (.str nm tk) v es).find? (·.key.isStr y)).map (·.val) = if nm = y then some v else (es.find? (·.key.isStr y)).map (·.val)
  | [], hk => by
    by_cases q : nm = y
    · simp [putL, isStr_str, q]
    · simp [putL, isStr_str, q]
  | e :: r, hk => by
    obtain ⟨x, t, hx⟩ := hk e (.head _)
    have ih := find_putL (nm := nm) (hsh := hsh) (tk := tk) (v := v) y r fun e h => hk e (.tail _ h)
    unfold putL
    rw [hx, isStr_str]
    by_cases c : x = nm
    · subst c
      simp only [BEq.rfl, if_true, List.find?_cons, hx, isStr_str]
      by_cases q : x = y
      · simp [q]
      · simp [q, beq_false_of_ne q]
    · rw [beq_false_of_ne c]
      simp only [Bool.false_eq_true, if_false, List.find?_cons, hx, isStr_str]
      by_cases q : x = y
      · subst q
        simp [Ne.symm c]
      · rw [beq_false_of_ne q]
        exact ih
theorem keys_putL {nm : Str} {hsh : Int} {tk : Tok} {v : Value} : ∀ {es : List DictEntry}, (∀ e ∈ es, ∃ x t, e.key = .str x t) → ∀ e ∈ putL nm hsh (.str nm tk) v es, ∃ x t, e.key = .str x t
  | [], hk, e, h => by
    simp only [putL, List.mem_singleton] at h
    subst h; exact ⟨_, _, rfl⟩
  | a :: r, hk, e, h => by
    unfold putL at h
    split at h
    · rcases List.mem_cons.mp h with rfl | h
      · exact hk a (.head _)
      · exact hk e (.tail _ h)
    · rcases List.mem_cons.mp h with rfl | h
      · exact hk _ (.head _)
      · exact keys_putL (fun e h => hk e (.tail _ h)) e h
theorem len_putL {nm : Str} {hsh : Int} {key v : Value} : ∀ (es : List DictEntry), (putL nm hsh key v es).length = if (es.find? (·.key.isStr nm)).isSome then es.length else es.length + 1
  | [] => rfl
  | e :: r => by
    unfold putL
    rw [List.find?_cons]
    cases c : e.key.isStr nm with
    | true => simp
    | false =>
      simp only [Bool.false_eq_true, if_false, List.length_cons, len_putL r]
      split <;> rfl
theorem cnt_cons {v : V} {r : List V} (h : v ≠ .unb) : cnt (v :: r) = cnt r + 1 := by cases v <;> first | exact absurd rfl h | rfl
open Classical in
theorem cnt_set {v : V} (hv : v ≠ .unb) : ∀ (fs : List V) (i : Nat), i < fs.length → cnt (setV v fs i) = if getV fs i = .unb then cnt fs + 1 else cnt fs
  | [], _, h => by simp at h
  | x :: r, 0, _ => by
    show cnt (v :: r) = if x = .unb then _ else _
    rw [cnt_cons hv]
    by_cases c : x = .unb
    · subst c; rw [if_pos rfl]; rfl
    · rw [if_neg c, cnt_cons c]
  | x :: r, i + 1, h => by
    show cnt (x :: setV v r i) = if getV r i = .unb then _ else _
    have ih := cnt_set hv r i (by simpa using h)
    by_cases c : x = .unb
    · subst c
      show cnt (setV v r i) = if _ then cnt r + 1 else cnt r
      exact ih
    · rw [cnt_cons c, cnt_cons c, ih]
      split <;> rfl
theorem cnt_le : ∀ (fs : List V), cnt fs ≤ fs.length
  | [] => Nat.le_refl _
  | x :: r => by
    have := cnt_le r
    by_cases c : x = .unb
    · subst c; show cnt r ≤ r.length + 1; (first | lia | omega)
    · rw [cnt_cons c, List.length_cons]; (first | lia | omega)
theorem VR.ne {φ : Phi} {h : Heap} {v : V} {u : Value} (r : VR φ h v u) : v ≠ .unb := by rintro rfl; exact r
theorem names14 {i : Nat} {nm : Str} (h : fieldNames[i]? = some nm) : i < 14 := (List.getElem?_eq_some_iff.mp h).1
theorem names_nd : fieldNames.Nodup := by decide +kernel
theorem FieldsR.put {φ : Phi} {h : Heap} {fs : List V} {es : List DictEntry} {i : Nat} {nm : Str} {v : V} {u : Value} {hsh : Int} {tk : Tok} (F : FieldsR φ h fs es) (hi : fieldNames[i]? = some nm) (hv : VR φ h v u) :
    FieldsR φ h (setV v fs i) (putL nm hsh (.str nm tk) u es) := by
  have hlt : i < fs.length := by rw [F.size]; exact names14 hi
  refine ⟨fun j y hj hne => ?_, keys_putL F.keys, ?_, by rw [setV_len]; exact F.size⟩
  · rw [getL_of_keys (keys_putL F.keys), find_putL y es F.keys]
    rw [getV_set v fs i j hlt] at hne ⊢
    by_cases c : i = j
    · subst c
      rw [hi] at hj
      cases hj
      rw [if_pos rfl, if_pos rfl]
      exact ⟨u, rfl, hv⟩
    · rw [if_neg c] at hne ⊢
      have : nm ≠ y := by
        rintro rfl
        exact c ((List.getElem?_inj (List.getElem?_eq_some_iff.mp hi).1 names_nd).mp (hi.trans hj.symm))
      rw [if_neg this]
      obtain ⟨w, e, r⟩ := F.get j y hj hne
      rw [getL_of_keys F.keys] at e
      exact ⟨w, e, r⟩
  · rw [len_putL, cnt_set hv.ne fs i hlt]
    have := F.few
    by_cases c : getV fs i = .unb
    · rw [if_pos c]; split <;> (first | lia | omega)
    · rw [if_neg c]
      obtain ⟨w, e, r⟩ := F.get i nm hi c
      rw [getL_of_keys F.keys] at e
      cases q : es.find? (·.key.isStr nm) with
      | none => rw [q] at e; cases e
      | some z => exact this
theorem ss_sattr {m₁ m₂ : XE} {i : Nat} {nm : Str} {eo ev : Expr} {p pos : Pos} (hn : fieldNames[i]? = some nm) (h₁ : ES G f n m₁ eo) (h₂ : ES G f n m₂ ev)
    (hs : ∀ env, swapsWith ev (some (.Attribute eo nm p)) pos.line env = pure false := by intro _; rfl) : SS G f n (sattr m₁ i m₂) (.Assign [.Attribute eo nm p] ev pos) := by
  intro A L φ η loc s kn kr kb kc hA S h
  refine plainObj_wpAny_Assign_Attribute (hs := hs _) (h₂.thenS hA S h fun u v η1 φ1 s1 hk hv st S1 => ?_)
  refine h₁.thenS hA S1 hk fun uo vo η2 φ2 s2 hk2 hvo st2 S2 => ?_
  obtain ⟨nn, rfl, hk3⟩ := asRef_of hk2
  obtain ⟨a, d, ej, rfl⟩ := hvo
  have hv := hv.st st2.pre (S1.st st2)
  rw [getT_eq] at hk3
  rcases obj_of hk3 with ⟨xs, eo, q⟩ | ⟨ep, kvs, eo, q⟩ | ⟨fs, eo, q⟩
  · cases q
  · cases q
  · rw [setK_eq, store_eq] at q
    obtain ⟨hro, q⟩ := bc_of q
    have hro : η2.r ≤ nn := Nat.le_of_ble_eq_true hro
    have hrr := S2.hr.ror
    obtain ⟨es, m, I, F⟩ := S2.hr.inst ej eo
    have hl : es.length ≤ 1000 := by
      have h1 := F.few
      have h2 := cnt_le fs
      have h3 := F.size
      (first | lia | omega)
    refine set_attrP (fun b o e => S2.hr.keep b o (G.X b o e)) I (List.mem_of_getElem? hn) (by rw [getL_of_keys F.keys]; rfl) hl fun tk h' hd' hs' => ?_
    have st3 : Step φ2 φ2 s2 { s2 with heap := h', toks := s2.toks + 2 } := Step.turn (List.mem_of_getElem? ej) (fun b q => hs'.2 b q) rfl rfl rfl
    have sto : St s2.heap h' := st3.st S2.hr
    have r : HR G φ2 ⟨η2.t.put (.inst (setV v fs i)) nn, η2.n, η2.r⟩ h' := by
      refine S2.hr.turn ej (fun b q => hs'.2 b q) (hrr ▸ hro) ⟨sto _ _ I.1 (.inr (.inr rfl)), _, _, hd', ?_⟩
      exact (F.st (List.prefix_refl _) sto).put hn (hv.st (List.prefix_refl _) sto)
    exact ⟨φ2, _, ((st.trans st2 S.hr S1.hr).trans st3 S.hr S2.hr).l, loc, S2.step st3 r, q⟩
end
end Kp
end
-- part KpLoop
section
set_option autoImplicit false
set_option linter.unusedVariables false
namespace Kp
open PySem PySem.W PyProof.Rows PySem.Calls

section
variable {G : Base} {f : Fx} {n : Nat}

-- while
theorem swhile_succ (c : XE) (a : XS) (k : Nat) (l : Loc) (h : H) (kn : KN) (kr : KR) (kb kc : KN) : swhile c a (k + 1) l h kn kr kb kc =
  c l h fun v h => truthy v fun t => bcase t (a l h (fun l h => swhile c a k l h kn kr kn kn) kr kn (fun l h => swhile c a k l h kn kr kn kn)) (kn l h) := rfl
theorem ss_while {c : XE} {a : XS} {fu : Nat} {e : Expr} {body : List Stmt} {pos : Pos} (h₁ : TS G f n c e) (h₂ : BS G f n a body) : SS G f n (swhile c a fu) (.While e body [] pos) := by
  intro A L φ η loc s kn kr kb kc hA S h
  have h : swhile c a fu loc η kn kr kn kn = true := by cases fu <;> exact h
  refine wpAny_While (codeAny_whileLoop (fun k s' => ∃ φ' η' loc', StepL L φ φ' s s' ∧ SR G f φ' η' L loc' s' ∧ swhile c a k loc' η' kn kr kn kn = true) ?_ fu ⟨φ, η, loc, StepL.refl _ _, S, h⟩)
  rintro k s' ⟨φ', η', loc', y, S', hk⟩
  cases k with
  | zero => cases hk
  | succ k =>
    rw [swhile_succ] at hk
    refine wpAny_mono (h₁ A L φ' η' loc' s' (fun t h => bcase t (a loc' h (fun l h => swhile c a k l h kn kr kn kn) kr kn (fun l h => swhile c a k l h kn kr kn kn)) (kn loc' h)) hA S' hk) (fun t s1 x => ?_) fun _ _ z => z.elim
    obtain ⟨η1, φ1, k1, st, r1⟩ := x
    have S1 := S'.step st r1
    have y1 := y.trans st.l S S'
    cases t with
    | false => exact wpAny_execs_nil ⟨φ1, η1, y1, loc', S1, k1⟩
    | true =>
      refine wpAny_mono (h₂ A L φ1 η1 loc' s1 _ _ _ _ hA S1 k1) (fun fl s2 z => ?_) fun _ _ z => z.elim
      obtain ⟨φ2, η2, y2, z⟩ := z
      have y3 := y1.trans y2 S S1
      cases fl with
      | next => obtain ⟨loc2, S2, k2⟩ := z; exact ⟨k, Nat.lt_succ_self _, φ2, η2, loc2, y3, S2, k2⟩
      | cont => obtain ⟨loc2, S2, k2⟩ := z; exact ⟨k, Nat.lt_succ_self _, φ2, η2, loc2, y3, S2, k2⟩
      | brk => exact ⟨φ2, η2, y3, z⟩
      | ret u => exact ⟨φ2, η2, y3, z⟩

-- for
noncomputable def outs : List String := ["enumerate", "zip", "dict_itemiterator", "dict_reverseitemiterator", "odict_iterator", "itertools.zip_longest", "itertools.pairwise"]
noncomputable def ItAt (it : Addr) (h : Heap) : Prop := ∃ o T vs, h.get? it = some o ∧ ¬ Im o ∧ o.cls = .type T ∧ o.data = .fields vs ∧ outs.contains T = false
structure TgtOk (G : Base) (f : Fx) (tgt : Tgt) (target : Expr) : Prop where
  as : ∀ A L φ η loc s v u (k : Loc → Bool) (Q : Unit → Shared → Prop), A.handled = none → SR G f φ η L loc s → VR φ s.heap v u → tgt v loc k = true →
    (∀ loc' s', SR G f φ η L loc' s' → StepL L φ φ s s' → k loc' = true → Q () s') → wpAny G.M A (assign target (f.env L) u) Q NoE s
  go : ∀ A it u (s : Shared) (Q : Unit → Shared → Prop), ItAt it s.heap → Q () s → wpAny G.M A (letOwnedTupleGo target (.ref it) u) Q NoE s
theorem tgt_var {i : Nat} {nm : Str} {p : Pos} (ok : f.Ok) (hn : f.names[i]? = some nm) : TgtOk G f (tvar i) (.Name nm p) := by
  refine ⟨fun A L φ η loc s v u k Q _ S hv hk q => ?_, fun A it u s Q _ q => wpAny_pure q⟩
  have hk : setK v loc i k = true := hk
  rw [setK_eq] at hk
  exact wpAny_assign_Name (store_wp ok S hn hv fun s1 S1 st1 => q _ _ S1 st1 hk)
theorem tgt_tup {is : List Nat} {elts : List Expr} {j : Nat} {p : Pos} (ok : f.Ok)
    (he : ∀ (j : Nat) (x : Expr), elts[j]? = some x → ∃ (i : Nat) (nm : Str) (p : Pos), is[j]? = some i ∧ f.names[i]? = some nm ∧ x = Expr.Name nm p) (hl : elts.length = is.length) : TgtOk G f (ttup is) (.Tuple elts j p) := by
  refine ⟨fun A L φ η loc s v u k Q hh S hv hk q => ?_, fun A it u s Q x q => ?_⟩
  · obtain ⟨vs, rfl, hk1⟩ := asTup_of hk
    exact tup_wp ok hh he hl S hv hk1 q
  · cases u with
    | ref a =>
      obtain ⟨o, T, vs, ho, hi, hc, hd, hT⟩ := x
      unfold letOwnedTupleGo
      refine wpAny_bind (wpAny_load ho ?_)
      rw [hc, hd]
      show wpAny _ A (if (outs.contains T && vs[0]? == some (rawInt a)) = true then _ else _) Q NoE s
      rw [hT, Bool.false_and, if_neg (by decide)]
      exact wpAny_pure q
    | _ => exact wpAny_pure q

theorem SR.iter {φ : Phi} {η : H} {L it : Addr} {loc : Loc} {s : Shared} {h' : Heap} {tk : Nat} (S : SR G f φ η L loc s) (x : Heap.ExtBut it s.heap h') (hi : ItAt it s.heap) (ht : ∀ p ∈ φ, p.2 ≠ it) (hl : it ≠ L)
    (h0 : G.h₀.objs.size ≤ it) (hf : ∀ o, ¬ G.fz it o) : SR G f φ η L loc { s with heap := h', toks := tk } ∧ St s.heap h' := by
  obtain ⟨o, T, vs, ho, hI, -⟩ := hi
  have sto : St s.heap h' := fun b ob e i => by
    by_cases q : b = it
    · subst q; rw [ho] at e; cases e; exact absurd i hI
    · exact x b ob q e
  refine ⟨⟨⟨fun b ob e => ?_, S.hr.len, fun i a d e => ?_, S.hr.above, S.hr.nd, fun b ob e => x b ob (fun q => hf ob (q ▸ e)) (S.hr.frz b ob e), S.hr.aboveF, S.hr.ror⟩, S.above, S.out, S.outF, ?_⟩, sto⟩
  · have : b ≠ it := fun q => by subst q; exact absurd (Heap.lt_size e) (Nat.not_lt.mpr h0)
    exact x b ob this (S.hr.keep b ob e)
  · obtain ⟨ob, hob, -⟩ := (S.hr.obj i a d e).alive
    exact (S.hr.obj i a d e).st (List.prefix_refl _) sto ((x d ob (ht (a, d) (List.mem_of_getElem? e)) hob).trans hob.symm)
  · obtain ⟨m, ⟨o', es, ep, ho', z⟩, hm⟩ := S.fr
    refine ⟨m, ⟨o', es, ep, x L o' (fun q => hl q.symm) ho', z⟩, fun i nm a b => ?_⟩
    obtain ⟨u, c, d⟩ := hm i nm a b
    exact ⟨u, c, d.st (List.prefix_refl _) sto⟩
theorem StepL.iter {φ φ' : Phi} {L it : Addr} {s₀ s : Shared} {h' : Heap} {tk : Nat} (y : StepL L φ φ' s₀ s) (x : Heap.ExtBut it s.heap h') (h0 : s₀.heap.get? it = none) : StepL L φ φ' s₀ { s with heap := h', toks := tk } :=
  ⟨y.pre, fun b o e n l => x b o (fun q => by subst q; rw [h0] at e; cases e) (y.ev b o e n l), y.fresh, y.gens, y.drawn, y.os⟩

structure It (G : Base) (f : Fx) (A : Around) (L it : Addr) (kn : KN) (kr : KR) (tgt : Tgt) (a : XS) (P : Nat → Phi → Heap → Prop) (M : Nat → KN) : Prop where
  alive : ∀ {k φ h}, P k φ h → ItAt it h
  stay : ∀ {k φ φ' h h'}, P k φ h → φ <+: φ' → St h h' → (∀ o, h.get? it = some o → h'.get? it = some o) → P k φ' h'
  next : ∀ k φ η loc s, SR G f φ η L loc s → P k φ s.heap → M k loc η = true →
    wpAny G.M A (pyNext (.ref it)) (fun r s1 => ∃ h' tk, s1 = { s with heap := h', toks := tk } ∧ Heap.ExtBut it s.heap h' ∧ match r with
      | none => kn loc η = true
      | some u => ∃ v k', k = k' + 1 ∧ P k' φ h' ∧ VR φ s.heap v u ∧ tgt v loc (fun l => a l η (M k') kr kn (M k')) = true) NoE s

theorem for_core {A : Around} {L it : Addr} {kn : KN} {kr : KR} {kb kc : KN} {tgt : Tgt} {target : Expr} {a : XS} {body : List Stmt} {P : Nat → Phi → Heap → Prop} {M : Nat → KN} {R : Result → Shared → Prop}
    (I : It G f A L it kn kr tgt a P M) (T : TgtOk G f tgt target) (hb : BS G f n a body) (hA : Room A n) {φ φ1 : Phi} {η η1 : H} {loc : Loc} {s₀ s1 : Shared} {k : Nat} (S₀ : SR G f φ η L loc s₀)
    (y : StepL L φ φ1 s₀ s1) (S1 : SR G f φ1 η1 L loc s1) (hP : P k φ1 s1.heap) (ht : ∀ p ∈ φ1, p.2 ≠ it) (hl : it ≠ L) (h0 : G.h₀.objs.size ≤ it) (hn : s₀.heap.get? it = none) (hm : M k loc η1 = true)
    (hR : ∀ fl s', PostS G f L φ s₀ kn kr kb kc fl s' → R (.ok fl) s') : codeAny G.M A (.forLoop target (.ref it) body [] (f.env L)) R s1 := by
  have hF : ∀ o, ¬ G.fz it o := fun o e => by have := S₀.hr.frz _ _ e; rw [hn] at this; cases this
  refine codeAny_forLoop_any (fun k s' => ∃ φ' η' loc', StepL L φ φ' s₀ s' ∧ SR G f φ' η' L loc' s' ∧ P k φ' s'.heap ∧ (∀ p ∈ φ', p.2 ≠ it) ∧ M k loc' η' = true) ?_ k ⟨φ1, η1, loc, y, S1, hP, ht, hm⟩
  rintro k s' ⟨φ', η', loc', y, S, hP, ht, hm⟩
  refine wpAny_mono (I.next k φ' η' loc' s' S hP hm) (fun r s2 z => ?_) fun _ _ z => z.elim
  obtain ⟨h', tk, rfl, hx, z⟩ := z
  obtain ⟨S2, sto⟩ := S.iter (tk := tk) hx (I.alive hP) ht hl h0 hF
  have y2 := y.iter (tk := tk) hx hn
  cases r with
  | none => exact wpAny_execs_nil (hR _ _ ⟨φ', η', y2, loc', S2, z⟩)
  | some u =>
    obtain ⟨v, k', rfl, hP', hv, hk⟩ := z
    refine wpAny_mono (T.go A it u _ _ (I.alive hP') ?_) (fun _ _ q => q) fun _ _ z => z.elim
    refine wpAny_mono (T.as A L φ' η' loc' _ v u _ _ hA.handled S2 (hv.st (List.prefix_refl _) sto) hk (fun loc3 s3 S3 y3 hk3 => ?_)) (fun _ _ q => q) fun _ _ z => z.elim
    refine wpAny_mono (hb A L φ' η' loc3 s3 _ _ _ _ hA S3 hk3) (fun fl s4 z => ?_) fun _ _ z => z.elim
    obtain ⟨φ4, η4, y4, z⟩ := z
    have y34 := (y2.trans y3 S₀ S2).trans y4 S₀ S3
    have hit : ∀ o, h'.get? it = some o → s4.heap.get? it = some o := fun o e => y4.ev _ _ (y3.ev _ _ e ht hl) ht hl
    have hP4 : P k' φ4 s4.heap := I.stay hP' y4.pre ((y3.st S2).trans (y4.st S3)) hit
    have ht4 : ∀ p ∈ φ4, p.2 ≠ it := fun p hp q => by
      rcases y4.fresh p hp with h | h
      · exact ht p h q
      · obtain ⟨o, T, vs, ho, -⟩ := I.alive hP'
        have := y3.ev _ _ ho ht hl
        rw [q, this] at h; cases h
    cases fl with
    | next => obtain ⟨loc5, S5, k5⟩ := z; exact ⟨k', Nat.lt_succ_self _, φ4, η4, loc5, y34, S5, hP4, ht4, k5⟩
    | cont => obtain ⟨loc5, S5, k5⟩ := z; exact ⟨k', Nat.lt_succ_self _, φ4, η4, loc5, y34, S5, hP4, ht4, k5⟩
    | brk => exact hR _ _ ⟨φ4, η4, y34, z⟩
    | ret u => exact hR _ _ ⟨φ4, η4, y34, z⟩
end
end Kp
end
-- part KpLoop2
section
set_option autoImplicit false
set_option linter.unusedVariables false
namespace Kp
open PySem PySem.W PyProof.Rows PySem.Calls

section
variable {G : Base} {f : Fx} {n : Nat} {A : Around} {L it : Addr} {kn : KN} {kr : KR} {tgt : Tgt} {a : XS}

-- a tuple
theorem forTup_cons (v : V) (vs : List V) : forTup tgt a kn kr (v :: vs) = fun l h => tgt v l fun l => a l h (forTup tgt a kn kr vs) kr kn (forTup tgt a kn kr vs) := rfl
theorem ItAt.tup {h : Heap} {t : Addr} {i : Nat} (x : IsTupIter h it t i) : ItAt it h := by
  obtain ⟨o, ho, hc, hd⟩ := x
  refine ⟨o, _, _, ho, fun i => ?_, hc, hd, by decide⟩
  rcases i with ⟨i, -⟩ | ⟨i, -⟩ | i
  · rw [hc] at i; exact absurd i (by decide)
  · rw [hc] at i; exact absurd i (by decide)
  · rw [hd] at i; cases i
theorem it_tup (hh : A.handled = none) {t : Addr} {us : List Value} {vs : List V} : It G f A L it kn kr tgt a
    (fun k φ h => k ≤ vs.length ∧ IsTupIter h it t (vs.length - k) ∧ IsTup h t (List.toArray us) ∧ VsR φ h vs us) (fun k => forTup tgt a kn kr (vs.drop (vs.length - k))) := by
  refine ⟨fun x => ItAt.tup x.2.1, fun {k φ φ' h h'} ⟨x1, ⟨o, ho, r⟩, ⟨o2, ho2, hc2, n2, hd2⟩, x4⟩ p st e => ⟨x1, ⟨o, e o ho, r⟩, ⟨o2, st _ _ ho2 (.inl ⟨hc2, _, n2, hd2⟩), hc2, n2, hd2⟩, x4.st p st⟩, ?_⟩
  rintro k φ η loc s S ⟨x1, x2, x3, x4⟩ hm
  have hlen := x4.length
  cases k with
  | zero =>
    rw [Nat.sub_zero, List.drop_length] at hm
    refine next_tuple_end hh x2 x3 (by simp [hlen]) fun h' hx => ⟨h', s.toks, rfl, hx, hm⟩
  | succ k =>
    have hlt : vs.length - (k + 1) < vs.length := by (first | lia | omega)
    have e1 : vs.length - (k + 1) + 1 = vs.length - k := by (first | lia | omega)
    rw [List.drop_eq_getElem_cons hlt, e1, forTup_cons] at hm
    obtain ⟨u, hu, hv⟩ := x4.get (List.getElem?_eq_getElem hlt)
    refine next_tuple_item x2 x3 (by simpa using hu) fun h' hx hs => ⟨h', s.toks, rfl, hs.extBut, _, k, rfl, ⟨by (first | lia | omega), by rw [← e1]; exact hx, ?_, ?_⟩, hv, hm⟩
    · obtain ⟨o2, ho2, hc2, n2, hd2⟩ := x3
      refine ⟨o2, (hs.2 t fun q => ?_).trans ho2, hc2, n2, hd2⟩
      subst q
      obtain ⟨o, ho, hc, -⟩ := x2
      rw [ho] at ho2; cases ho2
      rw [hc] at hc2; exact absurd hc2 (by decide)
    · refine x4.st (List.prefix_refl _) fun b o e i => (hs.2 b fun q => ?_).trans e
      subst q
      obtain ⟨o', T, vs', ho', hi', -⟩ := ItAt.tup x2
      rw [e] at ho'; cases ho'; exact hi' i

-- a range
theorem forRange_succ (st : Int) (k : Nat) (i : Int) : forRange tgt a kn kr st (k + 1) i = fun l h => tgt (.int i) l fun l => a l h (forRange tgt a kn kr st k (iadd i st)) kr kn (forRange tgt a kn kr st k (iadd i st)) := rfl
theorem ItAt.range {h : Heap} {x y z : Int} (x : IsRangeIter h it x y z) : ItAt it h := by
  refine ⟨_, _, _, x, fun i => ?_, rfl, rfl, by decide⟩
  rcases i with ⟨i, -⟩ | ⟨i, -⟩ | i
  · exact absurd (show Value.type "range_iterator" = Value.type "tuple" from i) (by decide)
  · exact absurd (show Value.type "range_iterator" = Value.type "range" from i) (by decide)
  · cases i
theorem rcount_eq {x y z : Int} (h : 0 < z ∨ z = -1) : (rcount x y z : Int) = Builtin.Range.rangeSize x y z := by
  rcases h with h | rfl
  · obtain ⟨n, rfl⟩ := Int.eq_ofNat_of_zero_le (Int.le_of_lt h)
    show ((Int.toNat (Int.fdiv (iadd (iadd (iadd y (ineg x)) (n : Int)) (.negSucc 0)) (n : Int)) : Nat) : Int) = _
    unfold Builtin.Range.rangeSize
    rw [iadd_eq, iadd_eq, iadd_eq, ineg_eq, if_pos h, Int.fdiv_eq_ediv_of_nonneg _ (Int.le_of_lt h)]
    by_cases q : x < y
    · rw [if_pos q]
      have e : y + -x + (n : Int) + Int.negSucc 0 = (y - x - 1) + (n : Int) := by (first | lia | omega)
      have h0 : 0 ≤ (y - x - 1) / (n : Int) := Int.ediv_nonneg (by (first | lia | omega)) (by (first | lia | omega))
      rw [e, Int.add_ediv_of_dvd_right (Int.dvd_refl _), Int.ediv_self (by (first | lia | omega))]
      (first | lia | omega)
    · rw [if_neg q]
      have e : y + -x + (n : Int) + Int.negSucc 0 < n := by (first | lia | omega)
      have : (y + -x + (n : Int) + Int.negSucc 0) / (n : Int) ≤ 0 := by
        have := (Int.ediv_lt_iff_lt_mul h (a := y + -x + (n : Int) + Int.negSucc 0) (b := 1)).mpr (by (first | lia | omega))
        (first | lia | omega)
      (first | lia | omega)
  · show ((Int.toNat (Int.fdiv (iadd (iadd (iadd x (ineg y)) (ineg (-1))) (.negSucc 0)) (ineg (-1))) : Nat) : Int) = _
    unfold Builtin.Range.rangeSize
    rw [iadd_eq, iadd_eq, iadd_eq, ineg_eq, ineg_eq, Int.neg_neg, Int.fdiv_one]
    simp only [show ¬ ((-1 : Int) > 0) by decide, if_false, Int.neg_neg, Int.ediv_one]
    split <;> (first | lia | omega)
theorem it_range (hh : A.handled = none) {x z : Int} {N : Nat} (hz : 0 < z ∨ z = -1) : It G f A L it kn kr tgt a
    (fun k φ h => k ≤ N ∧ IsRangeIter h it (x + ((N : Int) - k) * z) k z) (fun k => forRange tgt a kn kr z k (x + ((N : Int) - k) * z)) := by
  refine ⟨fun x => ItAt.range x.2, fun {k φ φ' h h'} x p st e => ⟨x.1, e _ x.2⟩, ?_⟩
  rintro k φ η loc s S ⟨x1, x2⟩ hm
  cases k with
  | zero => exact wpAny_pyNext_range_end hh x2 (by simp) fun h' hx => ⟨h', s.toks, rfl, hx, hm⟩
  | succ k =>
    rw [forRange_succ, iadd_eq] at hm
    have e : x + ((N : Int) - ((k + 1 : Nat) : Int)) * z + z = x + ((N : Int) - k) * z := by
      have e3 : (N : Int) - k = ((N : Int) - ((k + 1 : Nat) : Int)) + 1 := by (first | lia | omega)
      rw [e3, Int.add_mul, Int.one_mul]; (first | lia | omega)
    rw [e] at hm
    refine wpAny_pyNext_range_item x2 (by (first | lia | omega)) fun h' hx hs => ⟨h', _, rfl, hs.extBut, _, k, rfl, ⟨by (first | lia | omega), ?_⟩, VR.mkInt _ _, hm⟩
    rw [e] at hx
    have e2 : ((k + 1 : Nat) : Int) - 1 = (k : Int) := by (first | lia | omega)
    rw [e2] at hx
    exact hx

-- a list
theorem forList_succ (nn k i : Nat) (l : Loc) (h : H) : forList tgt a kn kr nn (k + 1) i l h = objCase (getT h nn) (fun xs => @List.rec V (fun _ => Bool) (kn l h) (fun v _ _ => tgt v l fun l => a l h (forList tgt a kn kr nn k (Nat.succ i)) kr kn (forList tgt a kn kr nn k (Nat.succ i))) (dropV xs i)) (fun _ _ => false) (fun _ => false) := rfl
theorem ItAt.list {h : Heap} {t : Addr} {i : Nat} (x : h.IsListIter it t i) : ItAt it h := by
  obtain ⟨o, ho, hc, hd⟩ := x
  refine ⟨o, _, _, ho, fun i => ?_, hc, hd, by decide⟩
  rcases i with ⟨i, -⟩ | ⟨i, -⟩ | i
  · rw [hc] at i; exact absurd i (by decide)
  · rw [hc] at i; exact absurd i (by decide)
  · rw [hd] at i; cases i
theorem it_list (hh : A.handled = none) {nn N : Nat} {d : Addr} : It G f A L it kn kr tgt a
    (fun k φ h => k ≤ N ∧ h.IsListIter it d (N - k) ∧ φ[nn]? = some (d, d)) (fun k => forList tgt a kn kr nn k (N - k)) := by
  refine ⟨fun x => ItAt.list x.2.1, fun {k φ φ' h h'} ⟨x1, ⟨o, ho, r⟩, x3⟩ p st e => ⟨x1, ⟨o, e o ho, r⟩, pre_get p x3⟩, ?_⟩
  rintro k φ η loc s S ⟨x1, x2, x3⟩ hm
  cases k with
  | zero => cases hm
  | succ k =>
    have e1 : N - (k + 1) + 1 = N - k := by (first | lia | omega)
    rw [forList_succ, getT_eq] at hm
    rcases obj_of hm with ⟨xs, eo, q⟩ | ⟨ep, kvs, eo, q⟩ | ⟨fs, eo, q⟩
    · obtain ⟨_, us, hl, hu⟩ := S.hr.list x3 eo
      have hlen := hu.length
      rw [dropV_eq] at q
      by_cases hlt : N - (k + 1) < xs.length
      · rw [List.drop_eq_getElem_cons hlt] at q
        obtain ⟨u, hu1, hv⟩ := hu.get (List.getElem?_eq_getElem hlt)
        have q : tgt xs[N - (k + 1)] loc (fun l => a l η (forList tgt a kn kr nn k (Nat.succ (N - (k + 1)))) kr kn (forList tgt a kn kr nn k (Nat.succ (N - (k + 1))))) = true := q
        rw [show Nat.succ (N - (k + 1)) = N - k from e1] at q
        exact wpAny_pyNext_list_item x2 hl.isList (by simpa using hu1) fun h' hx hs => ⟨h', s.toks, rfl, hs.extBut, _, k, rfl, ⟨by (first | lia | omega), by rw [← e1]; exact hx, x3⟩, hv, q⟩
      · rw [List.drop_eq_nil_of_le (by (first | lia | omega))] at q
        exact wpAny_pyNext_list_end hh x2 hl.isList (by simp [hlen]; (first | lia | omega)) fun h' hx => ⟨h', s.toks, rfl, hx, q⟩
    · cases q
    · cases q

-- a dict of tuples
abbrev dictObj (G : Base) (xs : List (List Int × Addr × Value)) (ep : Nat) : Obj := { cls := .type "dict", data := .dict (List.toArray (xs.map (entryOfKey G.knd))) ep }
theorem iter_dictP {E : Value → Shared → Prop} {s : Shared} {d : Addr} {xs : List (List Int × Addr × Value)} {ep : Nat} {Q : Value → Shared → Prop} (hd : (d == sysModules) = false) (ho : s.heap.get? d = some (dictObj G xs ep))
    (hQ : Q (.ref s.heap.objs.size) { s with heap := s.heap.push { cls := .type "dict_keyiterator", data := .fields #[.ref d, .int 0 0, .int xs.length 0, .int ep 0] } }) : wpAny G.M A (pyIter (.ref d)) Q E s := by
  have hT : s.TypeIs (.ref d) "dict" := ⟨_, ho, rfl⟩
  refine wpAny_pyIter_slot hT F.slot_dict_iter (wpAny_call_entry F.slot_dict_iter hT F.entry_dict_iter ?_ (F.args_dict_iter_1 _))
  unfold Builtin.«dict.__iter__»
  refine wpAny_bind ?_
  unfold Builtin.Dict.dictSlotNone
  refine wpAny_bind (wpAny_notOrdered_dict hT ?_)
  show wpAny _ _ (pure (Value.ref d)) _ _ s
  refine wpAny_pure ?_
  show wpAny _ _ (Builtin.Dict.showsAll d >>= _) _ _ s
  unfold Builtin.Dict.showsAll
  rw [if_neg (by rw [hd]; exact Bool.false_ne_true)]
  refine wpAny_bind (wpAny_pure ?_)
  refine wpAny_bind (wpAny_dictEntries ho rfl ?_)
  refine wpAny_bind (wpAny_dictEpoch ho rfl ?_)
  refine wpAny_bind (wpAny_newObj_type (wpAny_pure ⟨_, rfl, "dict_keyiterator", _, ⟨_, Heap.get?_push_size _ rfl, rfl⟩, F.slot_dict_keyiterator_next.lookup, ?_⟩))
  simpa [rawInt] using hQ
theorem next_dictP {E : Value → Shared → Prop} {s : Shared} {d : Addr} {i ep : Nat} {xs : List (List Int × Addr × Value)} {x : List Int × Addr × Value} {Q : Option Value → Shared → Prop} (hit : s.heap.IsKeyIter it d i xs.length ep)
    (hod : s.heap.get? d = some (dictObj G xs ep)) (hx : xs[i]? = some x)
    (hQ : ∀ h', h'.IsKeyIter it d (i + 1) xs.length ep → Heap.SameBut it s.heap h' → Q (some (.ref x.2.1)) { s with heap := h' }) : wpAny G.M A (pyNext (.ref it)) Q E s := by
  obtain ⟨o, ho, hc, hd⟩ := id hit
  unfold pyNext
  refine wpAny_bind (wpAny_attempt (wpAny_callSpecial?_slot (name := Str.ofString "__next__") hit.typeIs F.slot_dict_keyiterator_next
    (wpAny_call_entry F.slot_dict_keyiterator_next hit.typeIs F.entry_dict_keyiterator_next ?_ (F.args_dict_keyiterator_next_1 _))))
  refine wpAny_bind (wpAny_pure ?_)
  refine wpAny_bind ?_
  refine wpAny_bind ?_
  first | refine wpAny_bind (wpAny_typeNameOfWhole_keyiter hit.typeIs (wpAny_pure ?_)) | refine wpAny_bind (wpAny_typeNameOf_keyiter hit.typeIs (wpAny_pure ?_))
  refine wpAny_bind (wpAny_fieldsOf ho hd ?_)
  have hown : Builtin.Dict_items.ownsTuple "dict_keyiterator" = false := by decide
  simp only [hown, Bool.false_eq_true, if_false]
  show wpAny _ _ (if (Value.ref d == Value.none) = true then _ else _) _ _ s
  rw [if_neg (show ¬ ((Value.ref d == Value.none) = true) from Bool.false_ne_true)]
  refine wpAny_bind (wpAny_pure ?_)
  refine wpAny_bind (wpAny_dictEntries hod rfl ?_)
  have hsz : (List.toArray (xs.map (entryOfKey G.knd))).size = xs.length := by simp
  rw [if_neg (by rw [hsz]; simp)]
  refine wpAny_bind (wpAny_pure ?_)
  refine wpAny_bind (wpAny_dictEpoch hod rfl ?_)
  rw [if_neg (by simp)]
  refine wpAny_pure ?_
  have hge : (List.toArray (xs.map (entryOfKey G.knd)))[i]? = some (entryOfKey G.knd x) := by simp [hx]
  simp only [show ¬ ((i : Int) < 0) from by (first | lia | omega), if_false, Int.toNat_natCast, hge]
  refine wpAny_bind ?_
  first | refine wpAny_bind (wpAny_typeNameOfWhole_keyiter hit.typeIs (wpAny_pure ?_)) | refine wpAny_bind (wpAny_typeNameOf_keyiter hit.typeIs (wpAny_pure ?_))
  refine wpAny_bind (wpAny_isOneOf_keyiter hit.typeIs ?_)
  show wpAny _ _ (setField (.ref it) 1 (rawInt ((i : Int) + 1)) >>= _) _ _ s
  refine wpAny_bind (wpAny_setField ho hd (by simp) ?_)
  have hit' : (s.heap.update it (Obj.mapFields (·.setIfInBounds 1 (rawInt ((i : Int) + 1))))).IsKeyIter it d (i + 1) xs.length ep :=
    ⟨_, Heap.get?_update_self _ ho (Obj.isFreed_of_fields (Obj.data_mapFields hd _)), (Obj.cls_mapFields ..).trans hc, by rw [Obj.data_mapFields hd]; simp [rawInt]⟩
  refine wpAny_bind (wpAny_holding ?_)
  refine wpAny_bind (wpAny_isOneOf_keyiter (s := { s with heap := s.heap.update it (Obj.mapFields (·.setIfInBounds 1 (rawInt ((i : Int) + 1)))) }) hit'.typeIs ?_)
  show wpAny _ _ (pure (entryOfKey G.knd x).key) _ _ _
  exact wpAny_pure (wpAny_pure ⟨_, rfl, wpAny_pure (hQ _ hit' (Heap.SameBut.update ..))⟩)
theorem end_dictP {E : Value → Shared → Prop} {s : Shared} {d : Addr} {i ep : Nat} {xs : List (List Int × Addr × Value)} {Q : Option Value → Shared → Prop} (hh : A.handled = none) (hit : s.heap.IsKeyIter it d i xs.length ep)
    (hod : s.heap.get? d = some (dictObj G xs ep)) (hx : xs[i]? = none)
    (hQ : ∀ h', Heap.ExtBut it s.heap h' → Q none { s with heap := h' }) : wpAny G.M A (pyNext (.ref it)) Q E s := by
  obtain ⟨o, ho, hc, hd⟩ := id hit
  unfold pyNext
  refine wpAny_bind (wpAny_attempt (wpAny_callSpecial?_slot (name := Str.ofString "__next__") hit.typeIs F.slot_dict_keyiterator_next
    (wpAny_call_entry F.slot_dict_keyiterator_next hit.typeIs F.entry_dict_keyiterator_next ?_ (F.args_dict_keyiterator_next_1 _))))
  refine wpAny_bind (wpAny_pure ?_)
  refine wpAny_bind ?_
  refine wpAny_bind ?_
  first | refine wpAny_bind (wpAny_typeNameOfWhole_keyiter hit.typeIs (wpAny_pure ?_)) | refine wpAny_bind (wpAny_typeNameOf_keyiter hit.typeIs (wpAny_pure ?_))
  refine wpAny_bind (wpAny_fieldsOf ho hd ?_)
  have hown : Builtin.Dict_items.ownsTuple "dict_keyiterator" = false := by decide
  simp only [hown, Bool.false_eq_true, if_false]
  show wpAny _ _ (if (Value.ref d == Value.none) = true then _ else _) _ _ s
  rw [if_neg (show ¬ ((Value.ref d == Value.none) = true) from Bool.false_ne_true)]
  refine wpAny_bind (wpAny_pure ?_)
  refine wpAny_bind (wpAny_dictEntries hod rfl ?_)
  have hsz : (List.toArray (xs.map (entryOfKey G.knd))).size = xs.length := by simp
  rw [if_neg (by rw [hsz]; simp)]
  refine wpAny_bind (wpAny_pure ?_)
  refine wpAny_bind (wpAny_dictEpoch hod rfl ?_)
  rw [if_neg (by simp)]
  refine wpAny_pure ?_
  have hge : (List.toArray (xs.map (entryOfKey G.knd))).size ≤ i := by rw [hsz]; simpa using hx
  simp only [show ¬ ((i : Int) < 0) from by (first | lia | omega), if_false, Int.toNat_natCast, Array.getElem?_eq_none hge]
  refine wpAny_bind ?_
  first | refine wpAny_bind (wpAny_typeNameOfWhole_keyiter hit.typeIs (wpAny_pure ?_)) | refine wpAny_bind (wpAny_typeNameOf_keyiter hit.typeIs (wpAny_pure ?_))
  show wpAny _ _ (setField (.ref it) 0 .none >>= _) _ _ s
  refine wpAny_bind (wpAny_setField ho hd (by simp) ?_)
  show wpAny _ _ (newExc (.type "StopIteration") [] >>= _) _ _ _
  refine wpAny_bind ?_
  simp only [newExc, newTuple]
  refine wpAny_bind (wpAny_newObj_type ?_ (by size_fits))
  refine wpAny_bind (m := firstArgMember _ _) (wpAny_of_eq (a := Value.none) (by first | rfl | (simp only [firstArgMember]; rfl)) ?_)
  refine wpAny_newObj_type ?_ (by size_fits)
  simp only [raiseNew]
  refine wpAny_bind (wpAny_handled ?_)
  rw [show A.in1.handled = none from hh]
  refine wpAny_bind (wpAny_pure (wpAny_throw ?_))
  refine wpAny_bind (wpAny_isInstance (T := "StopIteration") (b := true) ⟨_, Heap.get?_push_size _ rfl, rfl⟩ isSubtype_stop ?_)
  exact wpAny_pure (hQ _ (((Heap.SameBut.update ..).extBut.push _).push _))
end
end Kp
end
-- part KpLoop3
section
set_option autoImplicit false
set_option linter.unusedVariables false
namespace Kp
open PySem PySem.W PyProof.Rows PySem.Calls

section
variable {G : Base} {f : Fx} {n : Nat} {A : Around} {L it : Addr} {kn : KN} {kr : KR} {tgt : Tgt} {a : XS}
theorem forDict_succ (nn ep k i : Nat) (l : Loc) (h : H) : forDict tgt a kn kr nn ep (k + 1) i l h = objCase (getT h nn) (fun _ => false) (fun ep' kvs => bcase (Nat.beq ep ep') (bcase (Nat.beq (lenD kvs) (Nat.add k i)) (keyAt kvs (kn l h) i fun v => tgt v l fun l => a l h (forDict tgt a kn kr nn ep k (Nat.succ i)) kr kn (forDict tgt a kn kr nn ep k (Nat.succ i))) false) false) (fun _ => false) := rfl
theorem ItAt.dict {h : Heap} {t : Addr} {i m ep : Nat} (x : h.IsKeyIter it t i m ep) : ItAt it h := by
  obtain ⟨o, ho, hc, hd⟩ := x
  refine ⟨o, _, _, ho, fun i => ?_, hc, hd, by decide⟩
  rcases i with ⟨i, -⟩ | ⟨i, -⟩ | i
  · rw [hc] at i; exact absurd i (by decide)
  · rw [hc] at i; exact absurd i (by decide)
  · rw [hd] at i; cases i
theorem vsr_of_items {φ : Phi} {h : Heap} {ks : List Int} {us : List Value} (x : ItemsAre (intKind G.prog G.w) ks us) : VsR φ h (ks.map V.int) us := by
  induction x with
  | nil => rfl
  | @cons k v ks vs h1 h2 ih =>
    have h1 : Value.isInt k v = true := h1
    have : ∃ t, v = .int k t := by
      cases v with
      | int i t => exact ⟨t, by rw [show i = k from by simpa [Value.isInt] using h1]⟩
      | _ => cases h1
    exact VsR.cons this ih
theorem keyAt_of : ∀ {kvs : List (V × V)} {xs : List (List Int × Addr × Value)} {φ : Phi} {h : Heap} {no : Bool} {i : Nat} {k : V → Bool}, DR G φ h kvs xs → keyAt kvs no i k = true →
    (xs[i]? = none ∧ no = true) ∨ ∃ x v, xs[i]? = some x ∧ VR φ h v (.ref x.2.1) ∧ k v = true
  | [], xs, φ, h, no, i, k, r, q => by rw [show xs = [] from r]; exact .inl ⟨rfl, q⟩
  | (p1, p2) :: kvs, xs, φ, h, no, 0, k, ⟨ks, y, s, e, a1, a2, a3, r⟩, q => by
    subst e
    refine .inr ⟨_, p1, rfl, ?_, q⟩
    dsimp only at a1
    subst a1
    obtain ⟨o, its, m, ho, hc, hd, hi⟩ := a2
    refine ⟨y.1, its.toList, rfl, ⟨o, ho, hc, m, by simpa using hd⟩, ?_⟩
    exact vsr_of_items (by simpa using hi)
  | p :: kvs, xs, φ, h, no, i + 1, k, ⟨ks, y, s, e, a1, a2, a3, r⟩, q => by
    subst e
    have q : keyAt kvs no i k = true := q
    have z := keyAt_of (i := i) (k := k) (no := no) r q
    simpa using z
theorem it_dict (hh : A.handled = none) {nn N ep : Nat} {d : Addr} : It G f A L it kn kr tgt a
    (fun k φ h => k ≤ N + 1 ∧ h.IsKeyIter it d (N + 1 - k) N ep ∧ φ[nn]? = some (d, d)) (fun k => forDict tgt a kn kr nn ep k (N + 1 - k)) := by
  refine ⟨fun x => ItAt.dict x.2.1, fun {k φ φ' h h'} ⟨x1, ⟨o, ho, r⟩, x3⟩ p st e => ⟨x1, ⟨o, e o ho, r⟩, pre_get p x3⟩, ?_⟩
  rintro k φ η loc s S ⟨x1, x2, x3⟩ hm
  cases k with
  | zero => cases hm
  | succ k =>
    have e1 : N + 1 - (k + 1) + 1 = N + 1 - k := by (first | lia | omega)
    rw [forDict_succ, getT_eq] at hm
    rcases obj_of hm with ⟨xs, eo, q⟩ | ⟨ep', kvs, eo, q⟩ | ⟨fs, eo, q⟩
    · cases q
    · obtain ⟨q1, q2⟩ := bc_of q
      obtain ⟨q3, q4⟩ := bc_of q2
      obtain rfl := Nat.eq_of_beq_eq_true q1
      have q3 := Nat.eq_of_beq_eq_true q3
      rw [lenD_eq] at q3
      have q3 : kvs.length = k + (N + 1 - (k + 1)) := q3
      obtain ⟨_, xs, ho, hn, hd⟩ := S.hr.dict x3 eo
      have hlen := hd.length
      have hN : xs.length = N := by (first | lia | omega)
      rw [← hN] at x2
      rcases keyAt_of hd q4 with ⟨hx, hk⟩ | ⟨x, v, hx, hv, hk⟩
      · rw [← hN] at hx
        exact end_dictP hh x2 ho hx fun h' hx => ⟨h', s.toks, rfl, hx, hk⟩
      · rw [show Nat.succ (N + 1 - (k + 1)) = N + 1 - k from e1] at hk
        rw [← hN] at hx
        refine next_dictP x2 ho hx fun h' hy hs => ⟨h', s.toks, rfl, hs.extBut, v, k, rfl, ⟨by (first | lia | omega), ?_, x3⟩, hv, hk⟩
        rw [hN, e1] at hy
        exact hy
    · cases q
end

section
variable {G : Base} {f : Fx} {n : Nat}
theorem SR.alloc0 {φ : Phi} {η : H} {L : Addr} {loc : Loc} {s : Shared} (S : SR G f φ η L loc s) (o : Obj) : SR G f φ η L loc { s with heap := s.heap.push o } ∧ Step φ φ s { s with heap := s.heap.push o } := by
  have kp : ∀ b ob, s.heap.get? b = some ob → (s.heap.push o).get? b = some ob := fun b ob e => Heap.get?_push_of_some _ e
  have st : Step φ φ s { s with heap := s.heap.push o } := Step.same kp rfl rfl rfl
  exact ⟨S.step st (S.hr.grow kp), st⟩
theorem ss_for {tgt : Tgt} {target : Expr} {m : XE} {iter : Expr} {a : XS} {body : List Stmt} {pos : Pos} (T : TgtOk G f tgt target) (h₁ : ES G f n m iter) (h₂ : BS G f n a body)
    (hs : ∀ env x, foldedSetIterable iter env x = pure x := by intro _ _; rfl) : SS G f n (sfor tgt m a) (.For target iter body [] pos) := by
  intro A L φ η loc s kn kr kb kc hA S h
  refine wpAny_For (hs := hs _) (h₁.thenS hA S h fun u v η1 φ1 s1 hk hv st S1 => ?_)
  have big := Nat.le_of_lt S1.big
  have fresh : s.heap.get? s1.heap.objs.size = none := by
    cases q : s.heap.get? s1.heap.objs.size with
    | none => rfl
    | some o =>
      exfalso
      by_cases c : ∀ p ∈ φ, p.2 ≠ s1.heap.objs.size
      · exact absurd (Heap.lt_size (st.ev _ _ q c)) (Nat.lt_irrefl _)
      · simp only [ne_eq, Classical.not_forall, Classical.not_not] at c
        obtain ⟨p, hp, e⟩ := c
        have := S1.hr.lt (st.pre.subset hp)
        rw [e] at this; exact absurd this (Nat.lt_irrefl _)
  have notIn : ∀ p ∈ φ1, p.2 ≠ s1.heap.objs.size := fun p hp q => by
    have := S1.hr.lt hp
    rw [q] at this; exact absurd this (Nat.lt_irrefl _)
  have notL : s1.heap.objs.size ≠ L := by
    obtain ⟨o, es, ep, ho, -⟩ := S1.alive
    exact Nat.ne_of_gt (Heap.lt_size ho)
  cases v with
  | ref nn =>
    obtain ⟨d, d', ej, rfl⟩ := hv
    have hk : objCase (getT η1 nn) (fun xs => forList tgt a kn kr nn (Nat.succ (lenV xs)) 0 loc η1) (fun ep kvs => forDict tgt a kn kr nn ep (Nat.succ (lenD kvs)) 0 loc η1) (fun _ => false) = true := hk
    rw [getT_eq] at hk
    rcases obj_of hk with ⟨xs, eo, q⟩ | ⟨ep, kvs, eo, q⟩ | ⟨fs, eo, q⟩
    · obtain ⟨rfl, us, hl, hu⟩ := S1.hr.list ej eo
      obtain ⟨S2, st2⟩ := S1.alloc0 { cls := .type "list_iterator", data := .fields #[.ref d, .int 0 0] }
      refine wpAny_pyIter_list hl.isList (for_core (it_list hA.handled (N := Nat.succ (lenV xs)) (nn := nn) (d := d)) T h₂ hA (kb := kb) (kc := kc) (k := Nat.succ (lenV xs)) S (st.trans st2 S.hr S1.hr).l S2 ⟨Nat.le_refl _, ?_, ej⟩ notIn notL big fresh ?_ fun fl s' z => z)
      · rw [Nat.sub_self]; exact ⟨_, Heap.get?_push_size _ rfl, rfl, rfl⟩
      · rw [Nat.sub_self]; exact q
    · obtain ⟨rfl, xs, ho, hn, hd⟩ := S1.hr.dict ej eo
      have hlen := hd.length
      obtain ⟨S2, st2⟩ := S1.alloc0 { cls := .type "dict_keyiterator", data := .fields #[.ref d, .int 0 0, .int xs.length 0, .int ep 0] }
      rw [lenD_eq, hlen] at q
      refine iter_dictP (S1.hr.notMod ej) ho (for_core (it_dict hA.handled (N := xs.length) (nn := nn) (d := d) (ep := ep)) T h₂ hA (kb := kb) (kc := kc) (k := xs.length + 1) S (st.trans st2 S.hr S1.hr).l S2 ⟨Nat.le_refl _, ?_, ej⟩ notIn notL big fresh ?_ fun fl s' z => z)
      · rw [Nat.sub_self]; exact ⟨_, Heap.get?_push_size _ rfl, rfl, rfl⟩
      · rw [Nat.sub_self]; exact q
    · cases q
  | tup vs =>
    obtain ⟨t, us, rfl, ht, hu⟩ := hv
    have hk : forTup tgt a kn kr vs loc η1 = true := hk
    obtain ⟨S2, st2⟩ := S1.alloc0 { cls := .type "tuple_iterator", data := .fields #[.ref t, .int 0 0] }
    refine iter_tuple ht (for_core (it_tup hA.handled (vs := vs) (us := us) (t := t)) T h₂ hA (kb := kb) (kc := kc) (k := vs.length) S (st.trans st2 S.hr S1.hr).l S2 ⟨Nat.le_refl _, ?_, ?_, hu.st st2.pre (S1.st st2)⟩ notIn notL big fresh ?_ fun fl s' z => z)
    · rw [Nat.sub_self]; exact ⟨_, Heap.get?_push_size _ rfl, rfl, rfl⟩
    · obtain ⟨o, ho, r⟩ := ht
      exact ⟨o, Heap.get?_push_of_some _ ho, r⟩
    · rw [Nat.sub_self]; exact hk
  | range x y z =>
    obtain ⟨r, t, tu, tv, rfl, hr, hsm, hz⟩ := hv
    have hk : forRange tgt a kn kr z (rcount x y z) x loc η1 = true := hk
    obtain ⟨S2, st2⟩ := S1.alloc0 { cls := .type "range_iterator", data := .fields #[rawInt x, rawInt (Builtin.Range.rangeSize x y z), rawInt z] }
    have e0 : x + (((rcount x y z : Nat) : Int) - ((rcount x y z : Nat) : Int)) * z = x := by rw [Int.sub_self, Int.zero_mul, Int.add_zero]
    refine wpAny_pyIter_range hr hsm (for_core (it_range hA.handled (x := x) (N := rcount x y z) hz) T h₂ hA (kb := kb) (kc := kc) (k := rcount x y z) S (st.trans st2 S.hr S1.hr).l S2 ⟨Nat.le_refl _, ?_⟩ notIn notL big fresh ?_ fun fl s' z => z)
    · rw [e0, rcount_eq hz]; exact Heap.get?_push_size _ rfl
    · rw [e0]; exact hk
  | _ => cases hk
end
end Kp
end
-- part KpFn
section
set_option autoImplicit false
set_option linter.unusedVariables false
namespace Kp
open PySem PySem.W PyProof.Rows PySem.Calls

section
variable {G : Base} {f : Fx} {n : Nat}
-- a function, from its body
theorem zip_lookup : ∀ (ns : List Str) (us : List Value) (i : Nat) (nm : Str) (u : Value), ns.Nodup → ns[i]? = some nm → us[i]? = some u → (ns.zip us).lookup nm = some u
  | [], _, i, nm, u, _, e, _ => by simp at e
  | x :: r, [], i, nm, u, _, _, e => by simp at e
  | x :: r, y :: s, 0, nm, u, _, e1, e2 => by
    simp only [List.getElem?_cons_zero, Option.some.injEq] at e1 e2
    subst e1; subst e2
    simp [List.lookup]
  | x :: r, y :: s, i + 1, nm, u, hn, e1, e2 => by
    simp only [List.getElem?_cons_succ] at e1 e2
    rw [List.nodup_cons] at hn
    have : (nm == x) = false := beq_false_of_ne fun q => hn.1 (by rw [← q]; exact List.mem_of_getElem? e1)
    rw [List.zip_cons_cons, List.lookup_cons, this]
    exact zip_lookup r s i nm u hn.2 e1 e2
theorem lookup_none : ∀ (l : List (Str × Value)) (x : Str), x ∉ l.map (·.1) → l.lookup x = none
  | [], _, _ => rfl
  | (a, b) :: r, x, h => by
    rw [List.map_cons, List.mem_cons, not_or] at h
    rw [List.lookup_cons, beq_false_of_ne h.1]
    exact lookup_none r x h.2
theorem lookup_app : ∀ (l : List (Str × Value)) (a x : Str) (b : Value), (l ++ [(a, b)]).lookup x = match l.lookup x with | some v => some v | none => if x = a then some b else none
  | [], a, x, b => by
    rw [List.nil_append, List.lookup_cons]
    by_cases c : x = a
    · subst c; simp [List.lookup]
    · rw [beq_false_of_ne c]; simp [List.lookup, c]
  | (p, q) :: r, a, x, b => by
    rw [List.cons_append, List.lookup_cons, List.lookup_cons]
    cases x == p with
    | true => rfl
    | false => exact lookup_app r a x b
theorem lookup_reverse : ∀ (l : List (Str × Value)) (x : Str), (l.map (·.1)).Nodup → l.reverse.lookup x = l.lookup x
  | [], _, _ => rfl
  | (a, b) :: r, x, h => by
    rw [List.map_cons, List.nodup_cons] at h
    rw [List.reverse_cons, lookup_app, lookup_reverse r x h.2, List.lookup_cons]
    by_cases c : x = a
    · subst c
      rw [lookup_none r x h.1]; simp
    · rw [beq_false_of_ne c]
      cases e : r.lookup x <;> simp [c]
noncomputable def HE (f : Fx) (is : List Nat) (elts : List Expr) : Prop := ∀ (j : Nat) (x : Expr), elts[j]? = some x → ∃ (i : Nat) (nm : Str) (p : Pos), is[j]? = some i ∧ f.names[i]? = some nm ∧ x = Expr.Name nm p
theorem he_nil : HE f [] [] := fun j x h => by simp at h
theorem he_cons {i : Nat} {is : List Nat} {nm : Str} {p : Pos} {elts : List Expr} (hn : f.names[i]? = some nm) (h : HE f is elts) : HE f (i :: is) (.Name nm p :: elts) := by
  intro j x e
  cases j with
  | zero => exact ⟨i, nm, p, rfl, hn, by simpa using e.symm⟩
  | succ j =>
    simp only [List.getElem?_cons_succ] at e ⊢
    exact h j x e
theorem FS.of {fname : Str} {params : Arguments} {body : List Stmt} {doc pm ct : Value} {an : Option Addr} {fo : Obj} {na : Nat} {unbs : List V} {m : XS} (ok : f.Ok)
    (ho : G.h₀.get? f.a = some fo) (hd : fo.data = .func (fnX fname f.cn params body f.cs [] .none .none doc pm an f.ccd ct)) (hcd : G.h₀.CodeRec f.ccd f.cn)
    (hu : unbs.all (fun v => match v with | .unb => true | _ => false) = true) (hlen : na ≤ f.names.length) (hcell : ∀ x ∈ f.cs.names, x.2 ≠ .cell)
    (hbind : ∀ us : List Value, us.length = na → bindArgs (fnX fname f.cn params body f.cs [] .none .none doc pm an f.ccd ct) ⟨us, []⟩ = pure ((f.names.take na).zip us))
    (hb : f.Ok → BS G f n m body) (hco : f.cs.isCoroutine = false := by rfl) (hgen : f.cs.isGenerator = false := by rfl) : FS G (n + 1) (fn na unbs m) f.a := by
  intro A φ η s vs us k hA r big hv h
  obtain ⟨ha, hm⟩ := bc_of h
  have ha := Nat.eq_of_beq_eq_true ha
  rw [lenV_eq] at ha
  have hul : us.length = na := by rw [hv.length]; exact ha
  have hnd : (((f.names.take na).zip us).map (·.1)).Nodup := by
    have : ((f.names.take na).zip us).map (·.1) = f.names.take na := by
      rw [List.map_fst_zip]
      rw [List.length_take, hul]; (first | lia | omega)
    rw [this]
    exact ok.nd.sublist (List.take_sublist _ _)
  refine codeAny_call_def (fd := fnX fname f.cn params body f.cs [] .none .none doc pm an f.ccd ct) (body := body) (binds := (f.names.take na).zip us) (by have := hA.depth; (first | lia | omega)) (r.keep _ _ ho) hd
    (G.lim.keeps r.keep) (hcd.keeps r.keep) rfl (BindsTo.of_eq (hbind us hul)) hcell (fun x hx => ?_) (fun h₁ hns hk => ?_) hco hgen ok.kind
  · have : x.1 ∈ f.names.take na := (List.of_mem_zip hx).1
    exact ok.loc _ (List.mem_of_mem_take this)
  · have kp : ∀ b o, s.heap.get? b = some o → h₁.get? b = some o := hk
    have hA' : Room (A.deeper (f.env s.heap.objs.size)) n := ⟨by have := hA.depth; show A.depth + 1 + n < _; (first | lia | omega), by have := hA.units; show A.units + 3 + 8 * n + 16 < _; (first | lia | omega), hA.handled⟩
    have sto : St s.heap h₁ := fun b o e _ => kp b o e
    have S : SR G f φ η s.heap.objs.size (vs ++ unbs) { s with heap := h₁, toks := s.toks + ((f.names.take na).zip us).length } := by
      refine ⟨r.grow kp, big, fun p hp q => ?_, fun o e => absurd (Heap.lt_size (r.frz _ _ e)) (Nat.lt_irrefl _), _, hns, fun i nm hi hne => ?_⟩
      · have := r.lt hp
        rw [q] at this; exact absurd this (Nat.lt_irrefl _)
      · by_cases c : i < vs.length
        · have e1 : getV (vs ++ unbs) i = vs[i] := by rw [getV_eq, List.getElem?_append_left c, List.getElem?_eq_getElem c]; rfl
          rw [e1]
          obtain ⟨u, hu1, hu2⟩ := hv.get (List.getElem?_eq_getElem c)
          refine ⟨u, ?_, hu2.st (List.prefix_refl _) sto⟩
          rw [lookup_reverse _ _ hnd]
          refine zip_lookup _ us i nm u (ok.nd.sublist (List.take_sublist _ _)) ?_ hu1
          rw [List.getElem?_take, if_pos (by (first | lia | omega))]; exact hi
        · exfalso
          apply hne
          rw [getV_eq, List.getElem?_append_right (by (first | lia | omega))]
          cases q : unbs[i - vs.length]? with
          | none => rfl
          | some v =>
            have := List.all_eq_true.mp hu v (List.mem_of_getElem? q)
            cases v <;> first | rfl | cases this
    refine wpAny_mono (hb ok _ s.heap.objs.size φ η (vs ++ unbs) _ _ _ _ _ hA' S hm) (fun fl s' z => ?_) fun _ _ z => z.elim
    obtain ⟨φ', η', y, z⟩ := z
    have st : Step φ φ' s s' := by
      refine ⟨y.pre, fun b o e nn => y.ev b o (kp b o e) nn (Nat.ne_of_lt (Heap.lt_size e)), fun p hp => ?_, y.gens, y.drawn, y.os⟩
      rcases y.fresh p hp with q | q
      · exact .inl q
      · cases c : s.heap.get? p.2 with
        | none => exact .inr rfl
        | some o =>
          have : h₁.get? p.2 = none := q
          rw [kp _ _ c] at this; cases this
    cases fl with
    | next => obtain ⟨loc', S', hk'⟩ := z; exact ⟨.none, η', φ', hk', rfl, st, S'.hr⟩
    | ret u => obtain ⟨v, r', hv', hk'⟩ := z; exact ⟨v, η', φ', hk', hv', st, r'⟩
    | brk => obtain ⟨_, _, hk'⟩ := z; cases hk'
    | cont => obtain ⟨_, _, hk'⟩ := z; cases hk'
end
end Kp
end
-- part KpBody
section
set_option autoImplicit false
namespace Kp
noncomputable section
noncomputable def sraise : XS := fun _ _ _ _ _ _ => false
-- squares_of: locals ['b', 'out', 'square']
noncomputable def b_squares_of : XS :=
 (sseq (sset (nat_lit 1) (xlist enil))
 (sseq (sset (nat_lit 2) (xlit (.int (.ofNat (nat_lit 0)))))
 (sseq (swhile (xloc (nat_lit 0))
  (sseq (swhile (xnot (xbin oand (xloc (nat_lit 0)) (xlit (.int (.ofNat (nat_lit 15))))))
   (sseq (saug (nat_lit 0) oshr (xlit (.int (.ofNat (nat_lit 4)))))
   (saug (nat_lit 2) oadd (xlit (.int (.ofNat (nat_lit 4)))))) (nat_lit 64))
  (sseq (sif (xbin oand (xloc (nat_lit 0)) (xlit (.int (.ofNat (nat_lit 1)))))
   (sexpr (xappend (xloc (nat_lit 1)) (xloc (nat_lit 2))))
   spass)
  (sseq (saug (nat_lit 0) oshr (xlit (.int (.ofNat (nat_lit 1)))))
  (saug (nat_lit 2) oadd (xlit (.int (.ofNat (nat_lit 1)))))))) (nat_lit 64))
 (sret (xloc (nat_lit 1))))))
noncomputable def f_squares_of : Fn := fn (nat_lit 1) [.unb, .unb] b_squares_of

-- pawn_files: locals ['geo']
noncomputable def b_pawn_files : XS :=
 (sret (xbin odiv (xbin oadd (xattr (xloc (nat_lit 0)) (nat_lit 0)) (xlit (.int (.ofNat (nat_lit 1))))) (xlit (.int (.ofNat (nat_lit 2))))))
noncomputable def f_pawn_files : Fn := fn (nat_lit 1) [] b_pawn_files

-- pawn_place: locals ['geo', 'pawn']
noncomputable def b_pawn_place : XS :=
 (sret (xbin osub (xbin oadd (xbin omul (xbin omod (xloc (nat_lit 1)) (xattr (xloc (nat_lit 0)) (nat_lit 0))) (xbin osub (xattr (xloc (nat_lit 0)) (nat_lit 1)) (xlit (.int (.ofNat (nat_lit 2)))))) (xbin odiv (xloc (nat_lit 1)) (xattr (xloc (nat_lit 0)) (nat_lit 0)))) (xlit (.int (.ofNat (nat_lit 1))))))
noncomputable def f_pawn_place : Fn := fn (nat_lit 2) [] b_pawn_place

-- kpk_size: locals ['geo']
noncomputable def b_kpk_size : XS :=
 (sret (xbin omul (xbin omul (xbin omul (xbin omul (xcall f_pawn_files (econs (xloc (nat_lit 0)) enil)) (xbin osub (xattr (xloc (nat_lit 0)) (nat_lit 1)) (xlit (.int (.ofNat (nat_lit 2)))))) (xlit (.int (.ofNat (nat_lit 2))))) (xattr (xloc (nat_lit 0)) (nat_lit 2))) (xattr (xloc (nat_lit 0)) (nat_lit 2))))
noncomputable def f_kpk_size : Fn := fn (nat_lit 1) [] b_kpk_size

-- kpk_index: locals ['geo', 'side', 'strong', 'pawn', 'weak']
noncomputable def b_kpk_index : XS :=
 (sret (xbin oadd (xbin omul (xbin oadd (xbin omul (xbin oadd (xbin omul (xcall f_pawn_place (econs (xloc (nat_lit 0)) (econs (xloc (nat_lit 3)) enil))) (xlit (.int (.ofNat (nat_lit 2))))) (xloc (nat_lit 1))) (xattr (xloc (nat_lit 0)) (nat_lit 2))) (xloc (nat_lit 4))) (xattr (xloc (nat_lit 0)) (nat_lit 2))) (xloc (nat_lit 2))))
noncomputable def f_kpk_index : Fn := fn (nat_lit 5) [] b_kpk_index

-- first_result: locals ['geo', 'side', 'strong', 'pawn', 'weak', 'steps', 'guarded', 'held', 'goal']
noncomputable def b_first_result : XS :=
 (sseq (sset (nat_lit 5) (xsub (xattr (xloc (nat_lit 0)) (nat_lit 9)) (xloc (nat_lit 4))))
 (sseq (sset (nat_lit 6) (xsub (xattr (xloc (nat_lit 0)) (nat_lit 9)) (xloc (nat_lit 2))))
 (sseq (sif (xor (xcmp ceq (xloc (nat_lit 2)) (xloc (nat_lit 3))) (xcmp ceq (xloc (nat_lit 4)) (xloc (nat_lit 3))))
  (sret (xlit (.int (.ofNat (nat_lit 0)))))
  spass)
 (sseq (sset (nat_lit 7) (xsub (xsub (xattr (xloc (nat_lit 0)) (nat_lit 11)) (xlit (.int (.ofNat (nat_lit 0))))) (xloc (nat_lit 3))))
 (sseq (sif (xcmp ceq (xloc (nat_lit 1)) (xlit (.int (.ofNat (nat_lit 0)))))
  (sseq (sif (xbin oand (xbin oshr (xloc (nat_lit 7)) (xloc (nat_lit 4))) (xlit (.int (.ofNat (nat_lit 1)))))
   (sret (xlit (.int (.ofNat (nat_lit 0)))))
   spass)
  (sseq (sset (nat_lit 8) (xbin oadd (xloc (nat_lit 3)) (xattr (xloc (nat_lit 0)) (nat_lit 0))))
  (sseq (sif (xand (xcmp ceq (xbin odiv (xloc (nat_lit 3)) (xattr (xloc (nat_lit 0)) (nat_lit 0))) (xbin osub (xattr (xloc (nat_lit 0)) (nat_lit 1)) (xlit (.int (.ofNat (nat_lit 2)))))) (xand (xcmp cne (xloc (nat_lit 8)) (xloc (nat_lit 2))) (xcmp cne (xloc (nat_lit 8)) (xloc (nat_lit 4)))))
   (sif (xor (xnot (xbin oand (xbin oshr (xloc (nat_lit 5)) (xloc (nat_lit 8))) (xlit (.int (.ofNat (nat_lit 1)))))) (xbin oand (xbin oshr (xloc (nat_lit 6)) (xloc (nat_lit 8))) (xlit (.int (.ofNat (nat_lit 1))))))
    (sret (xlit (.int (.ofNat (nat_lit 4)))))
    spass)
   spass)
  (sret (xlit (.int (.ofNat (nat_lit 1))))))))
  spass)
 (sseq (sif (xcmp ceq (xbin oand (xloc (nat_lit 5)) (xbin oor (xloc (nat_lit 6)) (xloc (nat_lit 7)))) (xloc (nat_lit 5)))
  (sret (xlit (.int (.ofNat (nat_lit 2)))))
  spass)
 (sseq (sif (xand (xbin oand (xbin oshr (xloc (nat_lit 5)) (xloc (nat_lit 3))) (xlit (.int (.ofNat (nat_lit 1))))) (xnot (xbin oand (xbin oshr (xloc (nat_lit 6)) (xloc (nat_lit 3))) (xlit (.int (.ofNat (nat_lit 1)))))))
  (sret (xlit (.int (.ofNat (nat_lit 2)))))
  spass)
 (sret (xlit (.int (.ofNat (nat_lit 1))))))))))))
noncomputable def f_first_result : Fn := fn (nat_lit 5) [.unb, .unb, .unb, .unb] b_first_result

-- strong_results: locals ['geo', 'base', 'steps', 'strong', 'pawn', 'weak', 'found', 'start', 'goal', 'rank', 'ahead']
noncomputable def b_strong_results : XS :=
 (sseq (sset (nat_lit 6) (xlit (.int (.ofNat (nat_lit 0)))))
 (sseq (sset (nat_lit 7) (xcall f_kpk_index (econs (xloc (nat_lit 0)) (econs (xlit (.int (.ofNat (nat_lit 1)))) (econs (xlit (.int (.ofNat (nat_lit 0)))) (econs (xloc (nat_lit 4)) (econs (xloc (nat_lit 5)) enil)))))))
 (sseq (sfor (tvar (nat_lit 8)) (xsub (xloc (nat_lit 2)) (xloc (nat_lit 3)))
  (saug (nat_lit 6) oor (xsub (xloc (nat_lit 1)) (xbin oadd (xloc (nat_lit 7)) (xloc (nat_lit 8))))))
 (sseq (sset (nat_lit 9) (xbin odiv (xloc (nat_lit 4)) (xattr (xloc (nat_lit 0)) (nat_lit 0))))
 (sseq (sif (xcmp clt (xloc (nat_lit 9)) (xbin osub (xattr (xloc (nat_lit 0)) (nat_lit 1)) (xlit (.int (.ofNat (nat_lit 2))))))
  (sseq (sset (nat_lit 10) (xbin oadd (xloc (nat_lit 4)) (xattr (xloc (nat_lit 0)) (nat_lit 0))))
  (sseq (saug (nat_lit 6) oor (xsub (xloc (nat_lit 1)) (xcall f_kpk_index (econs (xloc (nat_lit 0)) (econs (xlit (.int (.ofNat (nat_lit 1)))) (econs (xloc (nat_lit 3)) (econs (xloc (nat_lit 10)) (econs (xloc (nat_lit 5)) enil))))))))
  (sif (xand (xcmp ceq (xloc (nat_lit 9)) (xlit (.int (.ofNat (nat_lit 1))))) (xand (xattr (xloc (nat_lit 0)) (nat_lit 4)) (xand (xcmp cne (xloc (nat_lit 10)) (xloc (nat_lit 3))) (xcmp cne (xloc (nat_lit 10)) (xloc (nat_lit 5))))))
   (saug (nat_lit 6) oor (xsub (xloc (nat_lit 1)) (xcall f_kpk_index (econs (xloc (nat_lit 0)) (econs (xlit (.int (.ofNat (nat_lit 1)))) (econs (xloc (nat_lit 3)) (econs (xbin oadd (xloc (nat_lit 10)) (xattr (xloc (nat_lit 0)) (nat_lit 0))) (econs (xloc (nat_lit 5)) enil))))))))
   spass)))
  spass)
 (sret (xloc (nat_lit 6))))))))
noncomputable def f_strong_results : Fn := fn (nat_lit 6) [.unb, .unb, .unb, .unb, .unb] b_strong_results

-- weak_results: locals ['geo', 'base', 'steps', 'strong', 'pawn', 'weak', 'found', 'start', 'goal']
noncomputable def b_weak_results : XS :=
 (sseq (sset (nat_lit 6) (xlit (.int (.ofNat (nat_lit 0)))))
 (sseq (sset (nat_lit 7) (xcall f_kpk_index (econs (xloc (nat_lit 0)) (econs (xlit (.int (.ofNat (nat_lit 0)))) (econs (xloc (nat_lit 3)) (econs (xloc (nat_lit 4)) (econs (xlit (.int (.ofNat (nat_lit 0)))) enil)))))))
 (sseq (sfor (tvar (nat_lit 8)) (xsub (xloc (nat_lit 2)) (xloc (nat_lit 5)))
  (saug (nat_lit 6) oor (xsub (xloc (nat_lit 1)) (xbin oadd (xloc (nat_lit 7)) (xbin omul (xloc (nat_lit 8)) (xattr (xloc (nat_lit 0)) (nat_lit 2)))))))
 (sret (xloc (nat_lit 6))))))
noncomputable def f_weak_results : Fn := fn (nat_lit 6) [.unb, .unb, .unb] b_weak_results

-- classify: locals ['geo', 'base', 'steps', 'side', 'strong', 'pawn', 'weak', 'found', 'good', 'bad']
noncomputable def b_classify : XS :=
 (sseq (sif (xcmp ceq (xloc (nat_lit 3)) (xlit (.int (.ofNat (nat_lit 0)))))
  (sseq (sset (nat_lit 7) (xcall f_strong_results (econs (xloc (nat_lit 0)) (econs (xloc (nat_lit 1)) (econs (xloc (nat_lit 2)) (econs (xloc (nat_lit 4)) (econs (xloc (nat_lit 5)) (econs (xloc (nat_lit 6)) enil))))))))
  (sseq (sset (nat_lit 8) (xlit (.int (.ofNat (nat_lit 4)))))
  (sset (nat_lit 9) (xlit (.int (.ofNat (nat_lit 2)))))))
  (sseq (sset (nat_lit 7) (xcall f_weak_results (econs (xloc (nat_lit 0)) (econs (xloc (nat_lit 1)) (econs (xloc (nat_lit 2)) (econs (xloc (nat_lit 4)) (econs (xloc (nat_lit 5)) (econs (xloc (nat_lit 6)) enil))))))))
  (sseq (sset (nat_lit 8) (xlit (.int (.ofNat (nat_lit 2)))))
  (sset (nat_lit 9) (xlit (.int (.ofNat (nat_lit 4))))))))
 (sseq (sif (xbin oand (xloc (nat_lit 7)) (xloc (nat_lit 8)))
  (sret (xloc (nat_lit 8)))
  spass)
 (sseq (sif (xbin oand (xloc (nat_lit 7)) (xlit (.int (.ofNat (nat_lit 1)))))
  (sret (xlit (.int (.ofNat (nat_lit 1)))))
  spass)
 (sret (xloc (nat_lit 9))))))
noncomputable def f_classify : Fn := fn (nat_lit 7) [.unb, .unb, .unb] b_classify

-- settle_first: locals ['geo', 'base', 'unknown', 'pawn', 'weak', 'far', 'strong', 'side', 'result']
noncomputable def b_settle_first : XS :=
 (sseq (sset (nat_lit 2) (xlist enil))
 (sseq (sfor (tvar (nat_lit 3)) (xrange3 (xbin osub (xbin osub (xattr (xloc (nat_lit 0)) (nat_lit 2)) (xattr (xloc (nat_lit 0)) (nat_lit 0))) (xlit (.int (.ofNat (nat_lit 1))))) (xbin osub (xattr (xloc (nat_lit 0)) (nat_lit 0)) (xlit (.int (.ofNat (nat_lit 1))))) (xneg (xlit (.int (.ofNat (nat_lit 1))))))
  (sif (xcmp clt (xbin omod (xloc (nat_lit 3)) (xattr (xloc (nat_lit 0)) (nat_lit 0))) (xcall f_pawn_files (econs (xloc (nat_lit 0)) enil)))
   (sfor (tvar (nat_lit 4)) (xrange1 (xattr (xloc (nat_lit 0)) (nat_lit 2)))
    (sseq (sset (nat_lit 5) (xcall f_squares_of (econs (xbin oxor (xattr (xloc (nat_lit 0)) (nat_lit 3)) (xbin oor (xsub (xattr (xloc (nat_lit 0)) (nat_lit 9)) (xloc (nat_lit 4))) (xbin oshl (xlit (.int (.ofNat (nat_lit 1)))) (xloc (nat_lit 4))))) enil)))
    (sfor (tvar (nat_lit 6)) (xloc (nat_lit 5))
     (sfor (tvar (nat_lit 7)) (xtup (econs (xlit (.int (.ofNat (nat_lit 0)))) (econs (xlit (.int (.ofNat (nat_lit 1)))) enil)))
      (sseq (sset (nat_lit 8) (xcall f_first_result (econs (xloc (nat_lit 0)) (econs (xloc (nat_lit 7)) (econs (xloc (nat_lit 6)) (econs (xloc (nat_lit 3)) (econs (xloc (nat_lit 4)) enil)))))))
      (sseq (ssub (xloc (nat_lit 1)) (xcall f_kpk_index (econs (xloc (nat_lit 0)) (econs (xloc (nat_lit 7)) (econs (xloc (nat_lit 6)) (econs (xloc (nat_lit 3)) (econs (xloc (nat_lit 4)) enil)))))) (xloc (nat_lit 8)))
      (sif (xcmp ceq (xloc (nat_lit 8)) (xlit (.int (.ofNat (nat_lit 1)))))
       (sexpr (xappend (xloc (nat_lit 2)) (xtup (econs (xloc (nat_lit 7)) (econs (xloc (nat_lit 6)) (econs (xloc (nat_lit 3)) (econs (xloc (nat_lit 4)) enil)))))))
       spass)))))))
   spass))
 (sret (xloc (nat_lit 2)))))
noncomputable def f_settle_first : Fn := fn (nat_lit 2) [.unb, .unb, .unb, .unb, .unb, .unb, .unb] b_settle_first

-- settle_round: locals ['geo', 'base', 'steps', 'unknown', 'left', 'side', 'strong', 'pawn', 'weak', 'result']
noncomputable def b_settle_round : XS :=
 (sseq (sset (nat_lit 4) (xlist enil))
 (sseq (sfor (ttup [(nat_lit 5), (nat_lit 6), (nat_lit 7), (nat_lit 8)]) (xloc (nat_lit 3))
  (sseq (sset (nat_lit 9) (xcall f_classify (econs (xloc (nat_lit 0)) (econs (xloc (nat_lit 1)) (econs (xloc (nat_lit 2)) (econs (xloc (nat_lit 5)) (econs (xloc (nat_lit 6)) (econs (xloc (nat_lit 7)) (econs (xloc (nat_lit 8)) enil)))))))))
  (sif (xcmp ceq (xloc (nat_lit 9)) (xlit (.int (.ofNat (nat_lit 1)))))
   (sexpr (xappend (xloc (nat_lit 4)) (xtup (econs (xloc (nat_lit 5)) (econs (xloc (nat_lit 6)) (econs (xloc (nat_lit 7)) (econs (xloc (nat_lit 8)) enil)))))))
   (ssub (xloc (nat_lit 1)) (xcall f_kpk_index (econs (xloc (nat_lit 0)) (econs (xloc (nat_lit 5)) (econs (xloc (nat_lit 6)) (econs (xloc (nat_lit 7)) (econs (xloc (nat_lit 8)) enil)))))) (xloc (nat_lit 9))))))
 (sret (xloc (nat_lit 4)))))
noncomputable def f_settle_round : Fn := fn (nat_lit 4) [.unb, .unb, .unb, .unb, .unb, .unb] b_settle_round

-- build_kpk: locals ['geo', 'base', 'steps', 'square', 'unknown', 'left', 'side', 'strong', 'pawn', 'weak']
noncomputable def b_build_kpk : XS :=
 (sseq (sset (nat_lit 1) (xrep (xlit (.int (.ofNat (nat_lit 0)))) (xcall f_kpk_size (econs (xloc (nat_lit 0)) enil))))
 (sseq (sset (nat_lit 2) (xlist enil))
 (sseq (sfor (tvar (nat_lit 3)) (xrange1 (xattr (xloc (nat_lit 0)) (nat_lit 2)))
  (sexpr (xappend (xloc (nat_lit 2)) (xcall f_squares_of (econs (xsub (xattr (xloc (nat_lit 0)) (nat_lit 9)) (xloc (nat_lit 3))) enil)))))
 (sseq (sset (nat_lit 4) (xcall f_settle_first (econs (xloc (nat_lit 0)) (econs (xloc (nat_lit 1)) enil))))
 (sseq (swhile (xlit (.bool true))
  (sseq (sset (nat_lit 5) (xcall f_settle_round (econs (xloc (nat_lit 0)) (econs (xloc (nat_lit 1)) (econs (xloc (nat_lit 2)) (econs (xloc (nat_lit 4)) enil))))))
  (sseq (sif (xcmp ceq (xlen (xloc (nat_lit 5))) (xlen (xloc (nat_lit 4))))
   sbreak
   spass)
  (sset (nat_lit 4) (xloc (nat_lit 5))))) (nat_lit 64))
 (sseq (sfor (ttup [(nat_lit 6), (nat_lit 7), (nat_lit 8), (nat_lit 9)]) (xloc (nat_lit 4))
  (ssub (xloc (nat_lit 1)) (xcall f_kpk_index (econs (xloc (nat_lit 0)) (econs (xloc (nat_lit 6)) (econs (xloc (nat_lit 7)) (econs (xloc (nat_lit 8)) (econs (xloc (nat_lit 9)) enil)))))) (xlit (.int (.ofNat (nat_lit 2))))))
 (sret (xloc (nat_lit 1)))))))))
noncomputable def f_build_kpk : Fn := fn (nat_lit 1) [.unb, .unb, .unb, .unb, .unb, .unb, .unb, .unb, .unb] b_build_kpk

-- mirrored: locals ['geo', 'square', 'file']
noncomputable def b_mirrored : XS :=
 (sseq (sset (nat_lit 2) (xbin omod (xloc (nat_lit 1)) (xattr (xloc (nat_lit 0)) (nat_lit 0))))
 (sret (xbin osub (xbin osub (xbin oadd (xbin osub (xloc (nat_lit 1)) (xloc (nat_lit 2))) (xattr (xloc (nat_lit 0)) (nat_lit 0))) (xlit (.int (.ofNat (nat_lit 1))))) (xloc (nat_lit 2)))))
noncomputable def f_mirrored : Fn := fn (nat_lit 2) [.unb] b_mirrored

-- flipped: locals ['geo', 'square', 'rank']
noncomputable def b_flipped : XS :=
 (sseq (sset (nat_lit 2) (xbin odiv (xloc (nat_lit 1)) (xattr (xloc (nat_lit 0)) (nat_lit 0))))
 (sret (xbin oadd (xbin omul (xbin osub (xbin osub (xattr (xloc (nat_lit 0)) (nat_lit 1)) (xlit (.int (.ofNat (nat_lit 1))))) (xloc (nat_lit 2))) (xattr (xloc (nat_lit 0)) (nat_lit 0))) (xbin omod (xloc (nat_lit 1)) (xattr (xloc (nat_lit 0)) (nat_lit 0))))))
noncomputable def f_flipped : Fn := fn (nat_lit 2) [.unb] b_flipped

-- probe_kpk: locals ['geo', 'base', 'side', 'strong', 'pawn', 'weak', 'square']
noncomputable def b_probe_kpk : XS :=
 (sseq (sfor (tvar (nat_lit 6)) (xtup (econs (xloc (nat_lit 3)) (econs (xloc (nat_lit 5)) enil)))
  (sif (xnot (xcmp2 cle clt (xlit (.int (.ofNat (nat_lit 0)))) (xloc (nat_lit 6)) (xattr (xloc (nat_lit 0)) (nat_lit 2))))
   sraise
   spass))
 (sseq (sif (xnot (xcmp2 cle clt (xattr (xloc (nat_lit 0)) (nat_lit 0)) (xloc (nat_lit 4)) (xbin osub (xattr (xloc (nat_lit 0)) (nat_lit 2)) (xattr (xloc (nat_lit 0)) (nat_lit 0)))))
  sraise
  spass)
 (sseq (sif (xcmp cge (xbin omod (xloc (nat_lit 4)) (xattr (xloc (nat_lit 0)) (nat_lit 0))) (xcall f_pawn_files (econs (xloc (nat_lit 0)) enil)))
  (sseq (sset (nat_lit 3) (xcall f_mirrored (econs (xloc (nat_lit 0)) (econs (xloc (nat_lit 3)) enil))))
  (sseq (sset (nat_lit 4) (xcall f_mirrored (econs (xloc (nat_lit 0)) (econs (xloc (nat_lit 4)) enil))))
  (sset (nat_lit 5) (xcall f_mirrored (econs (xloc (nat_lit 0)) (econs (xloc (nat_lit 5)) enil))))))
  spass)
 (sret (xsub (xloc (nat_lit 1)) (xcall f_kpk_index (econs (xloc (nat_lit 0)) (econs (xloc (nat_lit 2)) (econs (xloc (nat_lit 3)) (econs (xloc (nat_lit 4)) (econs (xloc (nat_lit 5)) enil)))))))))))
noncomputable def f_probe_kpk : Fn := fn (nat_lit 6) [.unb] b_probe_kpk

-- probe_for: locals ['geo', 'base', 'owner', 'side', 'strong', 'pawn', 'weak']
noncomputable def b_probe_for : XS :=
 (sseq (sif (xcmp ceq (xloc (nat_lit 2)) (xlit (.int (.ofNat (nat_lit 0)))))
  (sret (xcall f_probe_kpk (econs (xloc (nat_lit 0)) (econs (xloc (nat_lit 1)) (econs (xloc (nat_lit 3)) (econs (xloc (nat_lit 4)) (econs (xloc (nat_lit 5)) (econs (xloc (nat_lit 6)) enil))))))))
  spass)
 (sret (xcall f_probe_kpk (econs (xloc (nat_lit 0)) (econs (xloc (nat_lit 1)) (econs (xbin osub (xlit (.int (.ofNat (nat_lit 1)))) (xloc (nat_lit 3))) (econs (xcall f_flipped (econs (xloc (nat_lit 0)) (econs (xloc (nat_lit 4)) enil))) (econs (xcall f_flipped (econs (xloc (nat_lit 0)) (econs (xloc (nat_lit 5)) enil))) (econs (xcall f_flipped (econs (xloc (nat_lit 0)) (econs (xloc (nat_lit 6)) enil))) enil)))))))))
noncomputable def f_probe_for : Fn := fn (nat_lit 7) [] b_probe_for

-- Geometry_init: locals ['self', 'files', 'ranks', 'has_double', 'has_castling']
noncomputable def b_Geometry_init : XS :=
 (sseq (sattr (xloc (nat_lit 0)) (nat_lit 0) (xloc (nat_lit 1)))
 (sseq (sattr (xloc (nat_lit 0)) (nat_lit 1) (xloc (nat_lit 2)))
 (sseq (sattr (xloc (nat_lit 0)) (nat_lit 2) (xbin omul (xloc (nat_lit 1)) (xloc (nat_lit 2))))
 (sseq (sattr (xloc (nat_lit 0)) (nat_lit 3) (xbin osub (xbin oshl (xlit (.int (.ofNat (nat_lit 1)))) (xbin omul (xloc (nat_lit 1)) (xloc (nat_lit 2)))) (xlit (.int (.ofNat (nat_lit 1))))))
 (sseq (sattr (xloc (nat_lit 0)) (nat_lit 4) (xand (xloc (nat_lit 3)) (xcmp cge (xloc (nat_lit 2)) (xlit (.int (.ofNat (nat_lit 5)))))))
 (sseq (sattr (xloc (nat_lit 0)) (nat_lit 5) (xloc (nat_lit 4)))
 (sseq (sattr (xloc (nat_lit 0)) (nat_lit 6) (xlist enil))
 (sseq (sattr (xloc (nat_lit 0)) (nat_lit 7) (xlist enil))
 (sseq (sattr (xloc (nat_lit 0)) (nat_lit 8) (xlist enil))
 (sseq (sattr (xloc (nat_lit 0)) (nat_lit 9) (xlist enil))
 (sseq (sattr (xloc (nat_lit 0)) (nat_lit 10) (xlist enil))
 (sseq (sattr (xloc (nat_lit 0)) (nat_lit 11) (xlist (econs (xlist enil) (econs (xlist enil) enil))))
 (sseq (sattr (xloc (nat_lit 0)) (nat_lit 12) (xlist enil))
 (sattr (xloc (nat_lit 0)) (nat_lit 13) (xlist enil)))))))))))))))
noncomputable def f_Geometry_init : Fn := fn (nat_lit 5) [] b_Geometry_init

noncomputable def f_Geometry : Fn := newInst f_Geometry_init [.unb, .unb, .unb, .unb, .unb, .unb, .unb, .unb, .unb, .unb, .unb, .unb, .unb, .unb]

-- is_growing: locals ['d']
noncomputable def b_is_growing : XS :=
 (sret (xor (xcmp cgt (xsub (xlit (.tup [.int (.ofNat (nat_lit 1)), .int (.ofNat (nat_lit 0)), .int (.negSucc (nat_lit 0)), .int (.ofNat (nat_lit 0)), .int (.ofNat (nat_lit 1)), .int (.negSucc (nat_lit 0)), .int (.negSucc (nat_lit 0)), .int (.ofNat (nat_lit 1))])) (xloc (nat_lit 0))) (xlit (.int (.ofNat (nat_lit 0))))) (xcmp ceq (xloc (nat_lit 0)) (xlit (.int (.ofNat (nat_lit 1)))))))
noncomputable def f_is_growing : Fn := fn (nat_lit 1) [] b_is_growing

-- add_masks: locals ['geo', 'row', 'column', 'r', 'f']
noncomputable def b_add_masks : XS :=
 (sseq (sset (nat_lit 1) (xbin osub (xbin oshl (xlit (.int (.ofNat (nat_lit 1)))) (xattr (xloc (nat_lit 0)) (nat_lit 0))) (xlit (.int (.ofNat (nat_lit 1))))))
 (sseq (sset (nat_lit 2) (xlit (.int (.ofNat (nat_lit 0)))))
 (sseq (sfor (tvar (nat_lit 3)) (xrange1 (xattr (xloc (nat_lit 0)) (nat_lit 1)))
  (sseq (sexpr (xappend (xattr (xloc (nat_lit 0)) (nat_lit 7)) (xbin oshl (xloc (nat_lit 1)) (xbin omul (xloc (nat_lit 3)) (xattr (xloc (nat_lit 0)) (nat_lit 0))))))
  (saug (nat_lit 2) oor (xbin oshl (xlit (.int (.ofNat (nat_lit 1)))) (xbin omul (xloc (nat_lit 3)) (xattr (xloc (nat_lit 0)) (nat_lit 0)))))))
 (sfor (tvar (nat_lit 4)) (xrange1 (xattr (xloc (nat_lit 0)) (nat_lit 0)))
  (sexpr (xappend (xattr (xloc (nat_lit 0)) (nat_lit 6)) (xbin oshl (xloc (nat_lit 2)) (xloc (nat_lit 4)))))))))
noncomputable def f_add_masks : Fn := fn (nat_lit 1) [.unb, .unb, .unb, .unb] b_add_masks

-- inner_squares: locals ['geo', 'd', 'edge']
noncomputable def b_inner_squares : XS :=
 (sseq (sset (nat_lit 2) (xlit (.int (.ofNat (nat_lit 0)))))
 (sseq (sif (xcmp cgt (xsub (xlit (.tup [.int (.ofNat (nat_lit 0)), .int (.ofNat (nat_lit 1)), .int (.ofNat (nat_lit 0)), .int (.negSucc (nat_lit 0)), .int (.ofNat (nat_lit 1)), .int (.ofNat (nat_lit 1)), .int (.negSucc (nat_lit 0)), .int (.negSucc (nat_lit 0))])) (xloc (nat_lit 1))) (xlit (.int (.ofNat (nat_lit 0)))))
  (saug (nat_lit 2) oor (xsub (xattr (xloc (nat_lit 0)) (nat_lit 6)) (xbin osub (xattr (xloc (nat_lit 0)) (nat_lit 0)) (xlit (.int (.ofNat (nat_lit 1)))))))
  spass)
 (sseq (sif (xcmp clt (xsub (xlit (.tup [.int (.ofNat (nat_lit 0)), .int (.ofNat (nat_lit 1)), .int (.ofNat (nat_lit 0)), .int (.negSucc (nat_lit 0)), .int (.ofNat (nat_lit 1)), .int (.ofNat (nat_lit 1)), .int (.negSucc (nat_lit 0)), .int (.negSucc (nat_lit 0))])) (xloc (nat_lit 1))) (xlit (.int (.ofNat (nat_lit 0)))))
  (saug (nat_lit 2) oor (xsub (xattr (xloc (nat_lit 0)) (nat_lit 6)) (xlit (.int (.ofNat (nat_lit 0))))))
  spass)
 (sseq (sif (xcmp cgt (xsub (xlit (.tup [.int (.ofNat (nat_lit 1)), .int (.ofNat (nat_lit 0)), .int (.negSucc (nat_lit 0)), .int (.ofNat (nat_lit 0)), .int (.ofNat (nat_lit 1)), .int (.negSucc (nat_lit 0)), .int (.negSucc (nat_lit 0)), .int (.ofNat (nat_lit 1))])) (xloc (nat_lit 1))) (xlit (.int (.ofNat (nat_lit 0)))))
  (saug (nat_lit 2) oor (xsub (xattr (xloc (nat_lit 0)) (nat_lit 7)) (xbin osub (xattr (xloc (nat_lit 0)) (nat_lit 1)) (xlit (.int (.ofNat (nat_lit 1)))))))
  spass)
 (sseq (sif (xcmp clt (xsub (xlit (.tup [.int (.ofNat (nat_lit 1)), .int (.ofNat (nat_lit 0)), .int (.negSucc (nat_lit 0)), .int (.ofNat (nat_lit 0)), .int (.ofNat (nat_lit 1)), .int (.negSucc (nat_lit 0)), .int (.negSucc (nat_lit 0)), .int (.ofNat (nat_lit 1))])) (xloc (nat_lit 1))) (xlit (.int (.ofNat (nat_lit 0)))))
  (saug (nat_lit 2) oor (xsub (xattr (xloc (nat_lit 0)) (nat_lit 7)) (xlit (.int (.ofNat (nat_lit 0))))))
  spass)
 (sret (xbin oand (xattr (xloc (nat_lit 0)) (nat_lit 3)) (xinv (xloc (nat_lit 2))))))))))
noncomputable def f_inner_squares : Fn := fn (nat_lit 2) [.unb] b_inner_squares

-- add_rays: locals ['geo', 'd', 'inner', 'delta', 'ray', 'order', 'square', 'goal']
noncomputable def b_add_rays : XS :=
 (sseq (sattr (xloc (nat_lit 0)) (nat_lit 9) (xrep (xlit (.int (.ofNat (nat_lit 0)))) (xattr (xloc (nat_lit 0)) (nat_lit 2))))
 (sfor (tvar (nat_lit 1)) (xrange1 (xlit (.int (.ofNat (nat_lit 8)))))
  (sseq (sset (nat_lit 2) (xcall f_inner_squares (econs (xloc (nat_lit 0)) (econs (xloc (nat_lit 1)) enil))))
  (sseq (sset (nat_lit 3) (xbin oadd (xbin omul (xsub (xlit (.tup [.int (.ofNat (nat_lit 1)), .int (.ofNat (nat_lit 0)), .int (.negSucc (nat_lit 0)), .int (.ofNat (nat_lit 0)), .int (.ofNat (nat_lit 1)), .int (.negSucc (nat_lit 0)), .int (.negSucc (nat_lit 0)), .int (.ofNat (nat_lit 1))])) (xloc (nat_lit 1))) (xattr (xloc (nat_lit 0)) (nat_lit 0))) (xsub (xlit (.tup [.int (.ofNat (nat_lit 0)), .int (.ofNat (nat_lit 1)), .int (.ofNat (nat_lit 0)), .int (.negSucc (nat_lit 0)), .int (.ofNat (nat_lit 1)), .int (.ofNat (nat_lit 1)), .int (.negSucc (nat_lit 0)), .int (.negSucc (nat_lit 0))])) (xloc (nat_lit 1)))))
  (sseq (sset (nat_lit 4) (xrep (xlit (.int (.ofNat (nat_lit 0)))) (xattr (xloc (nat_lit 0)) (nat_lit 2))))
  (sseq (sset (nat_lit 5) (xrange1 (xattr (xloc (nat_lit 0)) (nat_lit 2))))
  (sseq (sif (xcall f_is_growing (econs (xloc (nat_lit 1)) enil))
   (sset (nat_lit 5) (xrange3 (xbin osub (xattr (xloc (nat_lit 0)) (nat_lit 2)) (xlit (.int (.ofNat (nat_lit 1))))) (xneg (xlit (.int (.ofNat (nat_lit 1))))) (xneg (xlit (.int (.ofNat (nat_lit 1)))))))
   spass)
  (sseq (sfor (tvar (nat_lit 6)) (xloc (nat_lit 5))
   (sif (xbin oand (xbin oshr (xloc (nat_lit 2)) (xloc (nat_lit 6))) (xlit (.int (.ofNat (nat_lit 1)))))
    (sseq (sset (nat_lit 7) (xbin oadd (xloc (nat_lit 6)) (xloc (nat_lit 3))))
    (sseq (ssub (xloc (nat_lit 4)) (xloc (nat_lit 6)) (xbin oor (xsub (xloc (nat_lit 4)) (xloc (nat_lit 7))) (xbin oshl (xlit (.int (.ofNat (nat_lit 1)))) (xloc (nat_lit 7)))))
    (saugsub (xattr (xloc (nat_lit 0)) (nat_lit 9)) (xloc (nat_lit 6)) oor (xbin oshl (xlit (.int (.ofNat (nat_lit 1)))) (xloc (nat_lit 7))))))
    spass))
  (sexpr (xappend (xattr (xloc (nat_lit 0)) (nat_lit 8)) (xloc (nat_lit 4))))))))))))
noncomputable def f_add_rays : Fn := fn (nat_lit 1) [.unb, .unb, .unb, .unb, .unb, .unb, .unb] b_add_rays

-- add_pawns: locals ['geo', 'square']
noncomputable def b_add_pawns : XS :=
 (sfor (tvar (nat_lit 1)) (xrange1 (xattr (xloc (nat_lit 0)) (nat_lit 2)))
  (sseq (sexpr (xappend (xsub (xattr (xloc (nat_lit 0)) (nat_lit 11)) (xlit (.int (.ofNat (nat_lit 0))))) (xbin oand (xsub (xattr (xloc (nat_lit 0)) (nat_lit 9)) (xloc (nat_lit 1))) (xbin oor (xsub (xsub (xattr (xloc (nat_lit 0)) (nat_lit 8)) (xlit (.int (.ofNat (nat_lit 4))))) (xloc (nat_lit 1))) (xsub (xsub (xattr (xloc (nat_lit 0)) (nat_lit 8)) (xlit (.int (.ofNat (nat_lit 7))))) (xloc (nat_lit 1)))))))
  (sexpr (xappend (xsub (xattr (xloc (nat_lit 0)) (nat_lit 11)) (xlit (.int (.ofNat (nat_lit 1))))) (xbin oand (xsub (xattr (xloc (nat_lit 0)) (nat_lit 9)) (xloc (nat_lit 1))) (xbin oor (xsub (xsub (xattr (xloc (nat_lit 0)) (nat_lit 8)) (xlit (.int (.ofNat (nat_lit 5))))) (xloc (nat_lit 1))) (xsub (xsub (xattr (xloc (nat_lit 0)) (nat_lit 8)) (xlit (.int (.ofNat (nat_lit 6))))) (xloc (nat_lit 1)))))))))
noncomputable def f_add_pawns : Fn := fn (nat_lit 1) [.unb] b_add_pawns

-- add_knights: locals ['geo', 'files', 'not_first', 'not_last', 'not_first_two', 'not_last_two', 'square', 'b', 'near', 'far', 'found']
noncomputable def b_add_knights : XS :=
 (sseq (sset (nat_lit 1) (xattr (xloc (nat_lit 0)) (nat_lit 0)))
 (sseq (sset (nat_lit 2) (xbin oand (xattr (xloc (nat_lit 0)) (nat_lit 3)) (xinv (xsub (xattr (xloc (nat_lit 0)) (nat_lit 6)) (xlit (.int (.ofNat (nat_lit 0))))))))
 (sseq (sset (nat_lit 3) (xbin oand (xattr (xloc (nat_lit 0)) (nat_lit 3)) (xinv (xsub (xattr (xloc (nat_lit 0)) (nat_lit 6)) (xbin osub (xloc (nat_lit 1)) (xlit (.int (.ofNat (nat_lit 1)))))))))
 (sseq (sset (nat_lit 4) (xbin oand (xloc (nat_lit 2)) (xinv (xsub (xattr (xloc (nat_lit 0)) (nat_lit 6)) (xlit (.int (.ofNat (nat_lit 1))))))))
 (sseq (sset (nat_lit 5) (xbin oand (xloc (nat_lit 3)) (xinv (xsub (xattr (xloc (nat_lit 0)) (nat_lit 6)) (xbin osub (xloc (nat_lit 1)) (xlit (.int (.ofNat (nat_lit 2)))))))))
 (sfor (tvar (nat_lit 6)) (xrange1 (xattr (xloc (nat_lit 0)) (nat_lit 2)))
  (sseq (sset (nat_lit 7) (xbin oshl (xlit (.int (.ofNat (nat_lit 1)))) (xloc (nat_lit 6))))
  (sseq (sset (nat_lit 8) (xbin oor (xbin oand (xbin oshl (xloc (nat_lit 7)) (xlit (.int (.ofNat (nat_lit 1))))) (xloc (nat_lit 2))) (xbin oand (xbin oshr (xloc (nat_lit 7)) (xlit (.int (.ofNat (nat_lit 1))))) (xloc (nat_lit 3)))))
  (sseq (sset (nat_lit 9) (xbin oor (xbin oand (xbin oshl (xloc (nat_lit 7)) (xlit (.int (.ofNat (nat_lit 2))))) (xloc (nat_lit 4))) (xbin oand (xbin oshr (xloc (nat_lit 7)) (xlit (.int (.ofNat (nat_lit 2))))) (xloc (nat_lit 5)))))
  (sseq (sset (nat_lit 10) (xbin oor (xbin oor (xbin oor (xbin oshl (xloc (nat_lit 8)) (xbin omul (xlit (.int (.ofNat (nat_lit 2)))) (xloc (nat_lit 1)))) (xbin oshr (xloc (nat_lit 8)) (xbin omul (xlit (.int (.ofNat (nat_lit 2)))) (xloc (nat_lit 1))))) (xbin oshl (xloc (nat_lit 9)) (xloc (nat_lit 1)))) (xbin oshr (xloc (nat_lit 9)) (xloc (nat_lit 1)))))
  (sexpr (xappend (xattr (xloc (nat_lit 0)) (nat_lit 10)) (xbin oand (xloc (nat_lit 10)) (xattr (xloc (nat_lit 0)) (nat_lit 3)))))))))))))))
noncomputable def f_add_knights : Fn := fn (nat_lit 1) [.unb, .unb, .unb, .unb, .unb, .unb, .unb, .unb, .unb, .unb] b_add_knights

-- add_castles: locals ['geo', 'start', 'index', 'base', 'corner', 'way', 'goal']
noncomputable def b_add_castles : XS :=
 (sseq (sattr (xloc (nat_lit 0)) (nat_lit 13) (xrep (xlit (.int (.ofNat (nat_lit 0)))) (xattr (xloc (nat_lit 0)) (nat_lit 2))))
 (sseq (sset (nat_lit 1) (xbin odiv (xattr (xloc (nat_lit 0)) (nat_lit 0)) (xlit (.int (.ofNat (nat_lit 2))))))
 (sfor (tvar (nat_lit 2)) (xrange1 (xlit (.int (.ofNat (nat_lit 4)))))
  (sseq (sset (nat_lit 3) (xbin omul (xbin omul (xbin oshr (xloc (nat_lit 2)) (xlit (.int (.ofNat (nat_lit 1))))) (xbin osub (xattr (xloc (nat_lit 0)) (nat_lit 1)) (xlit (.int (.ofNat (nat_lit 1)))))) (xattr (xloc (nat_lit 0)) (nat_lit 0))))
  (sseq (sset (nat_lit 4) (xbin osub (xattr (xloc (nat_lit 0)) (nat_lit 0)) (xlit (.int (.ofNat (nat_lit 1))))))
  (sseq (sset (nat_lit 5) (xlit (.int (.ofNat (nat_lit 1)))))
  (sseq (sif (xbin oand (xloc (nat_lit 2)) (xlit (.int (.ofNat (nat_lit 1)))))
   (sseq (sset (nat_lit 4) (xlit (.int (.ofNat (nat_lit 0)))))
   (sset (nat_lit 5) (xneg (xlit (.int (.ofNat (nat_lit 1)))))))
   spass)
  (sseq (sset (nat_lit 6) (xbin oadd (xloc (nat_lit 1)) (xbin omul (xlit (.int (.ofNat (nat_lit 2)))) (xloc (nat_lit 5)))))
  (sif (xand (xattr (xloc (nat_lit 0)) (nat_lit 5)) (xcmp cgt (xbin omul (xbin osub (xloc (nat_lit 4)) (xloc (nat_lit 6))) (xloc (nat_lit 5))) (xlit (.int (.ofNat (nat_lit 0))))))
   (sseq (sexpr (xappend (xattr (xloc (nat_lit 0)) (nat_lit 12)) (xtup (econs (xbin oadd (xloc (nat_lit 3)) (xloc (nat_lit 1))) (econs (xbin oadd (xloc (nat_lit 3)) (xloc (nat_lit 6))) (econs (xbin oadd (xloc (nat_lit 3)) (xloc (nat_lit 4))) (econs (xbin osub (xbin oadd (xloc (nat_lit 3)) (xloc (nat_lit 6))) (xloc (nat_lit 5))) enil)))))))
   (sseq (saugsub (xattr (xloc (nat_lit 0)) (nat_lit 13)) (xbin oadd (xloc (nat_lit 3)) (xloc (nat_lit 1))) oor (xbin oshl (xlit (.int (.ofNat (nat_lit 1)))) (xloc (nat_lit 2))))
   (saugsub (xattr (xloc (nat_lit 0)) (nat_lit 13)) (xbin oadd (xloc (nat_lit 3)) (xloc (nat_lit 4))) oor (xbin oshl (xlit (.int (.ofNat (nat_lit 1)))) (xloc (nat_lit 2))))))
   (sexpr (xappend (xattr (xloc (nat_lit 0)) (nat_lit 12)) (xlit .none))))))))))))
noncomputable def f_add_castles : Fn := fn (nat_lit 1) [.unb, .unb, .unb, .unb, .unb, .unb] b_add_castles

-- make_geometry: locals ['files', 'ranks', 'has_double', 'has_castling', 'geo']
noncomputable def b_make_geometry : XS :=
 (sseq (sif (xor (xcmp clt (xloc (nat_lit 0)) (xlit (.int (.ofNat (nat_lit 2))))) (xor (xcmp cgt (xloc (nat_lit 0)) (xlit (.int (.ofNat (nat_lit 8))))) (xor (xcmp clt (xloc (nat_lit 1)) (xlit (.int (.ofNat (nat_lit 3))))) (xcmp cgt (xloc (nat_lit 1)) (xlit (.int (.ofNat (nat_lit 8))))))))
  sraise
  spass)
 (sseq (sset (nat_lit 4) (xcall f_Geometry (econs (xloc (nat_lit 0)) (econs (xloc (nat_lit 1)) (econs (xloc (nat_lit 2)) (econs (xloc (nat_lit 3)) enil))))))
 (sseq (sexpr (xcall f_add_masks (econs (xloc (nat_lit 4)) enil)))
 (sseq (sexpr (xcall f_add_rays (econs (xloc (nat_lit 4)) enil)))
 (sseq (sexpr (xcall f_add_pawns (econs (xloc (nat_lit 4)) enil)))
 (sseq (sexpr (xcall f_add_knights (econs (xloc (nat_lit 4)) enil)))
 (sseq (sexpr (xcall f_add_castles (econs (xloc (nat_lit 4)) enil)))
 (sret (xloc (nat_lit 4))))))))))
noncomputable def f_make_geometry : Fn := fn (nat_lit 4) [.unb] b_make_geometry

-- _law_near: locals ['files', 'size', 'out', 'a', 'row', 'b', 'aside', 'along']
noncomputable def b__law_near : XS :=
 (sseq (sset (nat_lit 2) (xlist enil))
 (sseq (sfor (tvar (nat_lit 3)) (xrange1 (xloc (nat_lit 1)))
  (sseq (sset (nat_lit 4) (xlist enil))
  (sseq (sfor (tvar (nat_lit 5)) (xrange1 (xloc (nat_lit 1)))
   (sseq (sset (nat_lit 6) (xabs (xbin osub (xbin omod (xloc (nat_lit 3)) (xloc (nat_lit 0))) (xbin omod (xloc (nat_lit 5)) (xloc (nat_lit 0))))))
   (sseq (sset (nat_lit 7) (xabs (xbin osub (xbin odiv (xloc (nat_lit 3)) (xloc (nat_lit 0))) (xbin odiv (xloc (nat_lit 5)) (xloc (nat_lit 0))))))
   (sif (xand (xcmp cne (xloc (nat_lit 3)) (xloc (nat_lit 5))) (xand (xcmp cle (xloc (nat_lit 6)) (xlit (.int (.ofNat (nat_lit 1))))) (xcmp cle (xloc (nat_lit 7)) (xlit (.int (.ofNat (nat_lit 1)))))))
    (sexpr (xappend (xloc (nat_lit 4)) (xloc (nat_lit 5))))
    spass))))
  (sexpr (xappend (xloc (nat_lit 2)) (xloc (nat_lit 4)))))))
 (sret (xloc (nat_lit 2)))))
noncomputable def f__law_near : Fn := fn (nat_lit 2) [.unb, .unb, .unb, .unb, .unb, .unb] b__law_near

-- _law_after: locals ['files', 'ranks', 'double', 'near', 'side', 'strong', 'pawn', 'weak', 'file', 'rank', 'held', 'out', 'ahead', 'goal']
noncomputable def b__law_after : XS :=
 (sseq (sif (xor (xcmp ceq (xloc (nat_lit 5)) (xloc (nat_lit 7))) (xor (xcmp ceq (xloc (nat_lit 5)) (xloc (nat_lit 6))) (xor (xcmp ceq (xloc (nat_lit 7)) (xloc (nat_lit 6))) (xin (xloc (nat_lit 7)) (xsub (xloc (nat_lit 3)) (xloc (nat_lit 5)))))))
  (sret (xtup (econs (xlit (.int (.ofNat (nat_lit 0)))) (econs (xlist enil) enil))))
  spass)
 (sseq (sset (nat_lit 8) (xbin omod (xloc (nat_lit 6)) (xloc (nat_lit 0))))
 (sseq (sset (nat_lit 9) (xbin odiv (xloc (nat_lit 6)) (xloc (nat_lit 0))))
 (sseq (sset (nat_lit 10) (xlist enil))
 (sseq (sif (xcmp cgt (xloc (nat_lit 8)) (xlit (.int (.ofNat (nat_lit 0)))))
  (sexpr (xappend (xloc (nat_lit 10)) (xbin osub (xbin oadd (xloc (nat_lit 6)) (xloc (nat_lit 0))) (xlit (.int (.ofNat (nat_lit 1)))))))
  spass)
 (sseq (sif (xcmp clt (xloc (nat_lit 8)) (xbin osub (xloc (nat_lit 0)) (xlit (.int (.ofNat (nat_lit 1))))))
  (sexpr (xappend (xloc (nat_lit 10)) (xbin oadd (xbin oadd (xloc (nat_lit 6)) (xloc (nat_lit 0))) (xlit (.int (.ofNat (nat_lit 1)))))))
  spass)
 (sseq (sset (nat_lit 11) (xlist enil))
 (sseq (sif (xcmp ceq (xloc (nat_lit 4)) (xlit (.int (.ofNat (nat_lit 0)))))
  (sseq (sif (xin (xloc (nat_lit 7)) (xloc (nat_lit 10)))
   (sret (xtup (econs (xlit (.int (.ofNat (nat_lit 0)))) (econs (xlist enil) enil))))
   spass)
  (sseq (sset (nat_lit 12) (xbin oadd (xloc (nat_lit 6)) (xloc (nat_lit 0))))
  (sseq (sif (xand (xcmp cne (xloc (nat_lit 12)) (xloc (nat_lit 5))) (xcmp cne (xloc (nat_lit 12)) (xloc (nat_lit 7))))
   (sif (xcmp ceq (xloc (nat_lit 9)) (xbin osub (xloc (nat_lit 1)) (xlit (.int (.ofNat (nat_lit 2))))))
    (sif (xor (xnotin (xloc (nat_lit 12)) (xsub (xloc (nat_lit 3)) (xloc (nat_lit 7)))) (xin (xloc (nat_lit 12)) (xsub (xloc (nat_lit 3)) (xloc (nat_lit 5)))))
     (sret (xtup (econs (xlit (.int (.ofNat (nat_lit 1)))) (econs (xlist enil) enil))))
     spass)
    (sseq (sexpr (xappend (xloc (nat_lit 11)) (xtup (econs (xlit (.int (.ofNat (nat_lit 1)))) (econs (xloc (nat_lit 5)) (econs (xloc (nat_lit 12)) (econs (xloc (nat_lit 7)) enil)))))))
    (sif (xand (xloc (nat_lit 2)) (xand (xcmp ceq (xloc (nat_lit 9)) (xlit (.int (.ofNat (nat_lit 1))))) (xand (xcmp cne (xbin oadd (xloc (nat_lit 12)) (xloc (nat_lit 0))) (xloc (nat_lit 5))) (xcmp cne (xbin oadd (xloc (nat_lit 12)) (xloc (nat_lit 0))) (xloc (nat_lit 7))))))
     (sexpr (xappend (xloc (nat_lit 11)) (xtup (econs (xlit (.int (.ofNat (nat_lit 1)))) (econs (xloc (nat_lit 5)) (econs (xbin oadd (xloc (nat_lit 12)) (xloc (nat_lit 0))) (econs (xloc (nat_lit 7)) enil)))))))
     spass)))
   spass)
  (sseq (sfor (tvar (nat_lit 13)) (xsub (xloc (nat_lit 3)) (xloc (nat_lit 5)))
   (sif (xand (xcmp cne (xloc (nat_lit 13)) (xloc (nat_lit 6))) (xnotin (xloc (nat_lit 13)) (xsub (xloc (nat_lit 3)) (xloc (nat_lit 7)))))
    (sexpr (xappend (xloc (nat_lit 11)) (xtup (econs (xlit (.int (.ofNat (nat_lit 1)))) (econs (xloc (nat_lit 13)) (econs (xloc (nat_lit 6)) (econs (xloc (nat_lit 7)) enil)))))))
    spass))
  (sret (xtup (econs (xlit (.int (.ofNat (nat_lit 3)))) (econs (xloc (nat_lit 11)) enil))))))))
  spass)
 (sseq (sfor (tvar (nat_lit 13)) (xsub (xloc (nat_lit 3)) (xloc (nat_lit 7)))
  (sif (xand (xnotin (xloc (nat_lit 13)) (xsub (xloc (nat_lit 3)) (xloc (nat_lit 5)))) (xnotin (xloc (nat_lit 13)) (xloc (nat_lit 10))))
   (sseq (sif (xcmp ceq (xloc (nat_lit 13)) (xloc (nat_lit 6)))
    (sret (xtup (econs (xlit (.int (.ofNat (nat_lit 2)))) (econs (xlist enil) enil))))
    spass)
   (sexpr (xappend (xloc (nat_lit 11)) (xtup (econs (xlit (.int (.ofNat (nat_lit 0)))) (econs (xloc (nat_lit 5)) (econs (xloc (nat_lit 6)) (econs (xloc (nat_lit 13)) enil))))))))
   spass))
 (sseq (sif (xisNil (xloc (nat_lit 11)))
  (sret (xtup (econs (xlit (.int (.ofNat (nat_lit 2)))) (econs (xlist enil) enil))))
  spass)
 (sret (xtup (econs (xlit (.int (.ofNat (nat_lit 3)))) (econs (xloc (nat_lit 11)) enil))))))))))))))
noncomputable def f__law_after : Fn := fn (nat_lit 8) [.unb, .unb, .unb, .unb, .unb, .unb] b__law_after

-- _law_is_won: locals ['side', 'known', 'count']
noncomputable def b__law_is_won : XS :=
 (sseq (sif (xcmp ceq (xloc (nat_lit 0)) (xlit (.int (.ofNat (nat_lit 0)))))
  (sret (xcmp cgt (xloc (nat_lit 1)) (xlit (.int (.ofNat (nat_lit 0))))))
  spass)
 (sret (xcmp ceq (xloc (nat_lit 1)) (xloc (nat_lit 2)))))
noncomputable def f__law_is_won : Fn := fn (nat_lit 3) [] b__law_is_won

-- _law_solve: locals ['files', 'ranks', 'near', 'column', 'size', 'won', 'told', 'nodes', 'pawn', 'strong', 'weak', 'side', 'place', 'sort', 'out', 'is_new', 'known', 'one']
noncomputable def b__law_solve : XS :=
 (sseq (sset (nat_lit 4) (xbin omul (xloc (nat_lit 0)) (xloc (nat_lit 1))))
 (sseq (sset (nat_lit 5) xdict)
 (sseq (sset (nat_lit 6) xdict)
 (sseq (sset (nat_lit 7) (xlist enil))
 (sseq (sfor (tvar (nat_lit 8)) (xrange3 (xbin oadd (xloc (nat_lit 0)) (xloc (nat_lit 3))) (xbin osub (xloc (nat_lit 4)) (xloc (nat_lit 0))) (xloc (nat_lit 0)))
  (sfor (tvar (nat_lit 9)) (xrange1 (xloc (nat_lit 4)))
   (sfor (tvar (nat_lit 10)) (xrange1 (xloc (nat_lit 4)))
    (sfor (tvar (nat_lit 11)) (xtup (econs (xlit (.int (.ofNat (nat_lit 0)))) (econs (xlit (.int (.ofNat (nat_lit 1)))) enil)))
     (sseq (sset (nat_lit 12) (xtup (econs (xloc (nat_lit 11)) (econs (xloc (nat_lit 9)) (econs (xloc (nat_lit 8)) (econs (xloc (nat_lit 10)) enil))))))
     (sseq (sunpack [(nat_lit 13), (nat_lit 14)] (xcall f__law_after (econs (xloc (nat_lit 0)) (econs (xloc (nat_lit 1)) (econs (xlit (.bool false)) (econs (xloc (nat_lit 2)) (econs (xloc (nat_lit 11)) (econs (xloc (nat_lit 9)) (econs (xloc (nat_lit 8)) (econs (xloc (nat_lit 10)) enil))))))))))
     (sseq (ssub (xloc (nat_lit 6)) (xloc (nat_lit 12)) (xbin omul (xmin (xloc (nat_lit 13)) (xlit (.int (.ofNat (nat_lit 1))))) (xlit (.int (.ofNat (nat_lit 2))))))
     (sseq (sif (xcmp ceq (xloc (nat_lit 13)) (xlit (.int (.ofNat (nat_lit 1)))))
      (ssub (xloc (nat_lit 5)) (xloc (nat_lit 12)) (xlit (.bool true)))
      spass)
     (sif (xcmp ceq (xloc (nat_lit 13)) (xlit (.int (.ofNat (nat_lit 3)))))
      (sexpr (xappend (xloc (nat_lit 7)) (xtup (econs (xloc (nat_lit 12)) (econs (xloc (nat_lit 14)) enil)))))
      spass)))))))))
 (sseq (sset (nat_lit 15) (xlit (.bool true)))
 (sseq (swhile (xloc (nat_lit 15))
  (sseq (sset (nat_lit 15) (xlit (.bool false)))
  (sfor (ttup [(nat_lit 12), (nat_lit 14)]) (xloc (nat_lit 7))
   (sif (xnotin (xloc (nat_lit 12)) (xloc (nat_lit 5)))
    (sseq (sset (nat_lit 16) (xlit (.int (.ofNat (nat_lit 0)))))
    (sseq (sfor (tvar (nat_lit 17)) (xloc (nat_lit 14))
     (sif (xin (xloc (nat_lit 17)) (xloc (nat_lit 5)))
      (saug (nat_lit 16) oadd (xlit (.int (.ofNat (nat_lit 1)))))
      spass))
    (sif (xcall f__law_is_won (econs (xsub (xloc (nat_lit 12)) (xlit (.int (.ofNat (nat_lit 0))))) (econs (xloc (nat_lit 16)) (econs (xlen (xloc (nat_lit 14))) enil))))
     (sseq (ssub (xloc (nat_lit 5)) (xloc (nat_lit 12)) (xlit (.bool true)))
     (sset (nat_lit 15) (xlit (.bool true))))
     spass)))
    spass))) (nat_lit 64))
 (sseq (sfor (tvar (nat_lit 12)) (xloc (nat_lit 5))
  (ssub (xloc (nat_lit 6)) (xloc (nat_lit 12)) (xlit (.int (.ofNat (nat_lit 4))))))
 (sret (xloc (nat_lit 6)))))))))))
noncomputable def f__law_solve : Fn := fn (nat_lit 4) [.unb, .unb, .unb, .unb, .unb, .unb, .unb, .unb, .unb, .unb, .unb, .unb, .unb, .unb] b__law_solve

-- _law_mirror: locals ['files', 'square']
noncomputable def b__law_mirror : XS :=
 (sret (xbin osub (xbin osub (xbin oadd (xbin osub (xloc (nat_lit 1)) (xbin omod (xloc (nat_lit 1)) (xloc (nat_lit 0)))) (xloc (nat_lit 0))) (xlit (.int (.ofNat (nat_lit 1))))) (xbin omod (xloc (nat_lit 1)) (xloc (nat_lit 0)))))
noncomputable def f__law_mirror : Fn := fn (nat_lit 2) [] b__law_mirror

-- _law_turn: locals ['files', 'ranks', 'square']
noncomputable def b__law_turn : XS :=
 (sret (xbin oadd (xbin omul (xbin osub (xbin osub (xloc (nat_lit 1)) (xlit (.int (.ofNat (nat_lit 1))))) (xbin odiv (xloc (nat_lit 2)) (xloc (nat_lit 0)))) (xloc (nat_lit 0))) (xbin omod (xloc (nat_lit 2)) (xloc (nat_lit 0)))))
noncomputable def f__law_turn : Fn := fn (nat_lit 3) [] b__law_turn

noncomputable def sraiseX (kx : Bool) (e : XE) : XS := fun l h _ _ _ _ => e l h fun v _ => asInt v fun _ => kx
noncomputable def b_probe_kpkX (kx : Bool) : XS :=
 (sseq (sfor (tvar (nat_lit 6)) (xtup (econs (xloc (nat_lit 3)) (econs (xloc (nat_lit 5)) enil)))
  (sif (xnot (xcmp2 cle clt (xlit (.int (.ofNat (nat_lit 0)))) (xloc (nat_lit 6)) (xattr (xloc (nat_lit 0)) (nat_lit 2))))
   (sraiseX kx (xloc (nat_lit 6)))
   spass))
 (sseq (sif (xnot (xcmp2 cle clt (xattr (xloc (nat_lit 0)) (nat_lit 0)) (xloc (nat_lit 4)) (xbin osub (xattr (xloc (nat_lit 0)) (nat_lit 2)) (xattr (xloc (nat_lit 0)) (nat_lit 0)))))
  (sraiseX kx (xloc (nat_lit 4)))
  spass)
 (sseq (sif (xcmp cge (xbin omod (xloc (nat_lit 4)) (xattr (xloc (nat_lit 0)) (nat_lit 0))) (xcall f_pawn_files (econs (xloc (nat_lit 0)) enil)))
  (sseq (sset (nat_lit 3) (xcall f_mirrored (econs (xloc (nat_lit 0)) (econs (xloc (nat_lit 3)) enil))))
  (sseq (sset (nat_lit 4) (xcall f_mirrored (econs (xloc (nat_lit 0)) (econs (xloc (nat_lit 4)) enil))))
  (sset (nat_lit 5) (xcall f_mirrored (econs (xloc (nat_lit 0)) (econs (xloc (nat_lit 5)) enil))))))
  spass)
 (sret (xsub (xloc (nat_lit 1)) (xcall f_kpk_index (econs (xloc (nat_lit 0)) (econs (xloc (nat_lit 2)) (econs (xloc (nat_lit 3)) (econs (xloc (nat_lit 4)) (econs (xloc (nat_lit 5)) enil)))))))))))
noncomputable def f_probe_kpkX (kx : Bool) : Fn := fn (nat_lit 6) [.unb] (b_probe_kpkX kx)

noncomputable def b_probe_forX (kx : Bool) : XS :=
 (sseq (sif (xcmp ceq (xloc (nat_lit 2)) (xlit (.int (.ofNat (nat_lit 0)))))
  (sret (xcall (f_probe_kpkX kx) (econs (xloc (nat_lit 0)) (econs (xloc (nat_lit 1)) (econs (xloc (nat_lit 3)) (econs (xloc (nat_lit 4)) (econs (xloc (nat_lit 5)) (econs (xloc (nat_lit 6)) enil))))))))
  spass)
 (sret (xcall (f_probe_kpkX kx) (econs (xloc (nat_lit 0)) (econs (xloc (nat_lit 1)) (econs (xbin osub (xlit (.int (.ofNat (nat_lit 1)))) (xloc (nat_lit 3))) (econs (xcall f_flipped (econs (xloc (nat_lit 0)) (econs (xloc (nat_lit 4)) enil))) (econs (xcall f_flipped (econs (xloc (nat_lit 0)) (econs (xloc (nat_lit 5)) enil))) (econs (xcall f_flipped (econs (xloc (nat_lit 0)) (econs (xloc (nat_lit 6)) enil))) enil)))))))))
noncomputable def f_probe_forX (kx : Bool) : Fn := fn (nat_lit 7) [] (b_probe_forX kx)

noncomputable def tryArgs : XL := (econs (xloc (nat_lit 7)) (econs (xloc (nat_lit 8)) (econs (xloc (nat_lit 19)) (econs (xloc (nat_lit 13)) (econs (xloc (nat_lit 14)) (econs (xloc (nat_lit 15)) (econs (xloc (nat_lit 16)) enil)))))))
noncomputable def frzH (h : H) : H := @H.rec (fun _ => H) (fun t n _ => ⟨t, n, n⟩) h
noncomputable def stry : XS := fun l h kn kr kb kc => truthy (getV l (nat_lit 20)) fun b => bcase b (bcase (xcall (f_probe_forX true) tryArgs l (frzH h) fun _ _ => false) (kn l h) false) (sset (nat_lit 21) (xcall f_probe_for tryArgs) l h kn kr kb kc)
-- 0 strong = s[at] % (size + 2)
noncomputable def b_loop_0 : XS :=
 (sset (nat_lit 14) (xbin omod (xsub (xloc (nat_lit 1)) (xloc (nat_lit 18))) (xbin oadd (xloc (nat_lit 4)) (xlit (.int (.ofNat (nat_lit 2)))))))
-- 1 pawn = (s[at + 1] + 1) % (ranks + 1) * files + column
noncomputable def b_loop_1 : XS :=
 (sset (nat_lit 15) (xbin oadd (xbin omul (xbin omod (xbin oadd (xsub (xloc (nat_lit 1)) (xbin oadd (xloc (nat_lit 18)) (xlit (.int (.ofNat (nat_lit 1)))))) (xlit (.int (.ofNat (nat_lit 1))))) (xbin oadd (xloc (nat_lit 3)) (xlit (.int (.ofNat (nat_lit 1)))))) (xloc (nat_lit 2))) (xloc (nat_lit 10))))
-- 2 if s[at + 1] // (ranks + 1) % 2 == 1:;    pawn = _law_mirror(files, pawn)
noncomputable def b_loop_2 : XS :=
 (sif (xcmp ceq (xbin omod (xbin odiv (xsub (xloc (nat_lit 1)) (xbin oadd (xloc (nat_lit 18)) (xlit (.int (.ofNat (nat_lit 1)))))) (xbin oadd (xloc (nat_lit 3)) (xlit (.int (.ofNat (nat_lit 1)))))) (xlit (.int (.ofNat (nat_lit 2))))) (xlit (.int (.ofNat (nat_lit 1)))))
  (sset (nat_lit 15) (xcall f__law_mirror (econs (xloc (nat_lit 2)) (econs (xloc (nat_lit 15)) enil))))
  spass)
-- 3 weak = (s[at + 2] + size - 1) % (size + 2)
noncomputable def b_loop_3 : XS :=
 (sset (nat_lit 16) (xbin omod (xbin osub (xbin oadd (xsub (xloc (nat_lit 1)) (xbin oadd (xloc (nat_lit 18)) (xlit (.int (.ofNat (nat_lit 2)))))) (xloc (nat_lit 4))) (xlit (.int (.ofNat (nat_lit 1))))) (xbin oadd (xloc (nat_lit 4)) (xlit (.int (.ofNat (nat_lit 2)))))))
-- 4 side = s[at + 3] % 2
noncomputable def b_loop_4 : XS :=
 (sset (nat_lit 13) (xbin omod (xsub (xloc (nat_lit 1)) (xbin oadd (xloc (nat_lit 18)) (xlit (.int (.ofNat (nat_lit 3)))))) (xlit (.int (.ofNat (nat_lit 2))))))
-- 5 owner = s[at + 3] // 2 % 2
noncomputable def b_loop_5 : XS :=
 (sset (nat_lit 19) (xbin omod (xbin odiv (xsub (xloc (nat_lit 1)) (xbin oadd (xloc (nat_lit 18)) (xlit (.int (.ofNat (nat_lit 3)))))) (xlit (.int (.ofNat (nat_lit 2))))) (xlit (.int (.ofNat (nat_lit 2))))))
-- 6 if strong == size + 1:;    strong = -1
noncomputable def b_loop_6 : XS :=
 (sif (xcmp ceq (xloc (nat_lit 14)) (xbin oadd (xloc (nat_lit 4)) (xlit (.int (.ofNat (nat_lit 1))))))
  (sset (nat_lit 14) (xneg (xlit (.int (.ofNat (nat_lit 1))))))
  spass)
-- 7 if weak == size + 1:;    weak = -1
noncomputable def b_loop_7 : XS :=
 (sif (xcmp ceq (xloc (nat_lit 16)) (xbin oadd (xloc (nat_lit 4)) (xlit (.int (.ofNat (nat_lit 1))))))
  (sset (nat_lit 16) (xneg (xlit (.int (.ofNat (nat_lit 1))))))
  spass)
-- 8 is_bad = not (0 <= strong < size and 0 <= weak < size and (files <= pawn < size 
noncomputable def b_loop_8 : XS :=
 (sset (nat_lit 20) (xnot (xand (xcmp2 cle clt (xlit (.int (.ofNat (nat_lit 0)))) (xloc (nat_lit 14)) (xloc (nat_lit 4))) (xand (xcmp2 cle clt (xlit (.int (.ofNat (nat_lit 0)))) (xloc (nat_lit 16)) (xloc (nat_lit 4))) (xcmp2 cle clt (xloc (nat_lit 2)) (xloc (nat_lit 15)) (xbin osub (xloc (nat_lit 4)) (xloc (nat_lit 2))))))))
-- 9 told = -1
noncomputable def b_loop_9 : XS :=
 (sset (nat_lit 21) (xneg (xlit (.int (.ofNat (nat_lit 1))))))
-- 10 try:;    told = probe_for(geo, base, owner, side, strong, pawn, weak);except Bad
noncomputable def b_loop_10 : XS :=
 stry
-- 11 if is_bad:;    if told != -1:;        return False;    continue
noncomputable def b_loop_11 : XS :=
 (sif (xloc (nat_lit 20))
  (sseq (sif (xcmp cne (xloc (nat_lit 21)) (xneg (xlit (.int (.ofNat (nat_lit 1))))))
   (sret (xlit (.bool false)))
   spass)
  scont)
  spass)
-- 12 if owner == 1:;    strong = _law_turn(files, ranks, strong);    pawn = _law_turn
noncomputable def b_loop_12 : XS :=
 (sif (xcmp ceq (xloc (nat_lit 19)) (xlit (.int (.ofNat (nat_lit 1)))))
  (sseq (sset (nat_lit 14) (xcall f__law_turn (econs (xloc (nat_lit 2)) (econs (xloc (nat_lit 3)) (econs (xloc (nat_lit 14)) enil)))))
  (sseq (sset (nat_lit 15) (xcall f__law_turn (econs (xloc (nat_lit 2)) (econs (xloc (nat_lit 3)) (econs (xloc (nat_lit 15)) enil)))))
  (sseq (sset (nat_lit 16) (xcall f__law_turn (econs (xloc (nat_lit 2)) (econs (xloc (nat_lit 3)) (econs (xloc (nat_lit 16)) enil)))))
  (sset (nat_lit 13) (xbin osub (xlit (.int (.ofNat (nat_lit 1)))) (xloc (nat_lit 13)))))))
  spass)
-- 13 if not is_local:;    if pawn % files != column:;        strong = _law_mirror(fil
noncomputable def b_loop_13 : XS :=
 (sif (xnot (xloc (nat_lit 5)))
  (sseq (sif (xcmp cne (xbin omod (xloc (nat_lit 15)) (xloc (nat_lit 2))) (xloc (nat_lit 10)))
   (sseq (sset (nat_lit 14) (xcall f__law_mirror (econs (xloc (nat_lit 2)) (econs (xloc (nat_lit 14)) enil))))
   (sseq (sset (nat_lit 15) (xcall f__law_mirror (econs (xloc (nat_lit 2)) (econs (xloc (nat_lit 15)) enil))))
   (sset (nat_lit 16) (xcall f__law_mirror (econs (xloc (nat_lit 2)) (econs (xloc (nat_lit 16)) enil))))))
   spass)
  (sif (xcmp cne (xloc (nat_lit 21)) (xsub (xloc (nat_lit 11)) (xtup (econs (xloc (nat_lit 13)) (econs (xloc (nat_lit 14)) (econs (xloc (nat_lit 15)) (econs (xloc (nat_lit 16)) enil)))))))
   (sret (xlit (.bool false)))
   spass))
  (sseq (sunpack [(nat_lit 22), (nat_lit 23)] (xcall f__law_after (econs (xloc (nat_lit 2)) (econs (xloc (nat_lit 3)) (econs (xloc (nat_lit 6)) (econs (xloc (nat_lit 9)) (econs (xloc (nat_lit 13)) (econs (xloc (nat_lit 14)) (econs (xloc (nat_lit 15)) (econs (xloc (nat_lit 16)) enil))))))))))
  (sseq (sset (nat_lit 17) (xlit (.int (.ofNat (nat_lit 0)))))
  (sseq (sfor (tvar (nat_lit 24)) (xloc (nat_lit 23))
   (sif (xcmp ceq (xcall f_probe_kpk (econs (xloc (nat_lit 7)) (econs (xloc (nat_lit 8)) (econs (xsub (xloc (nat_lit 24)) (xlit (.int (.ofNat (nat_lit 0))))) (econs (xsub (xloc (nat_lit 24)) (xlit (.int (.ofNat (nat_lit 1))))) (econs (xsub (xloc (nat_lit 24)) (xlit (.int (.ofNat (nat_lit 2))))) (econs (xsub (xloc (nat_lit 24)) (xlit (.int (.ofNat (nat_lit 3))))) enil))))))) (xlit (.int (.ofNat (nat_lit 4)))))
    (saug (nat_lit 17) oadd (xlit (.int (.ofNat (nat_lit 1)))))
    spass))
  (sseq (sset (nat_lit 25) (xlit (.int (.ofNat (nat_lit 2)))))
  (sseq (sif (xcmp ceq (xloc (nat_lit 22)) (xlit (.int (.ofNat (nat_lit 0)))))
   (sset (nat_lit 25) (xlit (.int (.ofNat (nat_lit 0)))))
   spass)
  (sseq (sif (xor (xcmp ceq (xloc (nat_lit 22)) (xlit (.int (.ofNat (nat_lit 1))))) (xand (xcmp ceq (xloc (nat_lit 22)) (xlit (.int (.ofNat (nat_lit 3))))) (xcall f__law_is_won (econs (xloc (nat_lit 13)) (econs (xloc (nat_lit 17)) (econs (xlen (xloc (nat_lit 23))) enil))))))
   (sset (nat_lit 25) (xlit (.int (.ofNat (nat_lit 4)))))
   spass)
  (sif (xcmp cne (xloc (nat_lit 21)) (xloc (nat_lit 25)))
   (sret (xlit (.bool false)))
   spass))))))))
noncomputable def b_P2 : XS := (sseq b_loop_6 (sseq b_loop_7 (sseq b_loop_8 (sseq b_loop_9 (sseq b_loop_10 (sseq b_loop_11 (sseq b_loop_12 b_loop_13)))))))
-- law: locals ['script', 's', 'files', 'ranks', 'size', 'is_local', 'double', 'geo', 'base', 'near', 'column', 'right', 'place', 'side', 'strong', 'pawn', 'weak', 'known', 'at', 'owner', 'is_bad', 'told', 'sort', 'out', 'one', 'wanted']
-- 0 s = script[:15] + [0] * (7 - len(script))
noncomputable def b_law_0 : XS :=
 (sset (nat_lit 1) (xcat (xtake (xloc (nat_lit 0)) 15) (xrep (xlit (.int (.ofNat (nat_lit 0)))) (xbin osub (xlit (.int (.ofNat (nat_lit 7)))) (xlen (xloc (nat_lit 0)))))))
-- 1 files, ranks = [(2, 3), (2, 4), (3, 3), (2, 5)][s[0] % 4]
noncomputable def b_law_1 : XS :=
 (sunpack [(nat_lit 2), (nat_lit 3)] (xsub (xlist (econs (xtup (econs (xlit (.int (.ofNat (nat_lit 2)))) (econs (xlit (.int (.ofNat (nat_lit 3)))) enil))) (econs (xtup (econs (xlit (.int (.ofNat (nat_lit 2)))) (econs (xlit (.int (.ofNat (nat_lit 4)))) enil))) (econs (xtup (econs (xlit (.int (.ofNat (nat_lit 3)))) (econs (xlit (.int (.ofNat (nat_lit 3)))) enil))) (econs (xtup (econs (xlit (.int (.ofNat (nat_lit 2)))) (econs (xlit (.int (.ofNat (nat_lit 5)))) enil))) enil))))) (xbin omod (xsub (xloc (nat_lit 1)) (xlit (.int (.ofNat (nat_lit 0))))) (xlit (.int (.ofNat (nat_lit 4)))))))
-- 2 size = files * ranks
noncomputable def b_law_2 : XS :=
 (sset (nat_lit 4) (xbin omul (xloc (nat_lit 2)) (xloc (nat_lit 3))))
-- 3 is_local = ranks == 5
noncomputable def b_law_3 : XS :=
 (sset (nat_lit 5) (xcmp ceq (xloc (nat_lit 3)) (xlit (.int (.ofNat (nat_lit 5))))))
-- 4 double = is_local and s[1] % 2 == 0
noncomputable def b_law_4 : XS :=
 (sset (nat_lit 6) (xand (xloc (nat_lit 5)) (xcmp ceq (xbin omod (xsub (xloc (nat_lit 1)) (xlit (.int (.ofNat (nat_lit 1))))) (xlit (.int (.ofNat (nat_lit 2))))) (xlit (.int (.ofNat (nat_lit 0)))))))
-- 5 geo = make_geometry(files, ranks, double, False)
noncomputable def b_law_5 : XS :=
 (sset (nat_lit 7) (xcall f_make_geometry (econs (xloc (nat_lit 2)) (econs (xloc (nat_lit 3)) (econs (xloc (nat_lit 6)) (econs (xlit (.bool false)) enil))))))
-- 6 base = build_kpk(geo)
noncomputable def b_law_6 : XS :=
 (sset (nat_lit 8) (xcall f_build_kpk (econs (xloc (nat_lit 7)) enil)))
-- 7 near = _law_near(files, size)
noncomputable def b_law_7 : XS :=
 (sset (nat_lit 9) (xcall f__law_near (econs (xloc (nat_lit 2)) (econs (xloc (nat_lit 4)) enil))))
-- 8 column = s[2] % files
noncomputable def b_law_8 : XS :=
 (sset (nat_lit 10) (xbin omod (xsub (xloc (nat_lit 1)) (xlit (.int (.ofNat (nat_lit 2))))) (xloc (nat_lit 2))))
-- 9 if len(base) != (files + 1) // 2 * (ranks - 2) * 2 * size * size:;    return Fal
noncomputable def b_law_9 : XS :=
 (sif (xcmp cne (xlen (xloc (nat_lit 8))) (xbin omul (xbin omul (xbin omul (xbin omul (xbin odiv (xbin oadd (xloc (nat_lit 2)) (xlit (.int (.ofNat (nat_lit 1))))) (xlit (.int (.ofNat (nat_lit 2))))) (xbin osub (xloc (nat_lit 3)) (xlit (.int (.ofNat (nat_lit 2)))))) (xlit (.int (.ofNat (nat_lit 2))))) (xloc (nat_lit 4))) (xloc (nat_lit 4))))
  (sret (xlit (.bool false)))
  spass)
-- 10 right = {}
noncomputable def b_law_10 : XS :=
 (sset (nat_lit 11) xdict)
-- 11 if not is_local:;    right = _law_solve(files, ranks, near, column);    for plac
noncomputable def b_law_11 : XS :=
 (sif (xnot (xloc (nat_lit 5)))
  (sseq (sset (nat_lit 11) (xcall f__law_solve (econs (xloc (nat_lit 2)) (econs (xloc (nat_lit 3)) (econs (xloc (nat_lit 9)) (econs (xloc (nat_lit 10)) enil))))))
  (sfor (tvar (nat_lit 12)) (xloc (nat_lit 11))
   (sseq (sunpack [(nat_lit 13), (nat_lit 14), (nat_lit 15), (nat_lit 16)] (xloc (nat_lit 12)))
   (sseq (sif (xand (xcmp cne (xloc (nat_lit 14)) (xloc (nat_lit 16))) (xnotin (xloc (nat_lit 16)) (xsub (xloc (nat_lit 9)) (xloc (nat_lit 14)))))
    (sseq (sset (nat_lit 17) (xsub (xlist (econs (xlit (.int (.ofNat (nat_lit 0)))) (econs (xlit (.int (.ofNat (nat_lit 4)))) (econs (xlit (.int (.ofNat (nat_lit 2)))) (econs (xlit (.int (.ofNat (nat_lit 1)))) enil))))) (xsub (xcall f__law_after (econs (xloc (nat_lit 2)) (econs (xloc (nat_lit 3)) (econs (xlit (.bool false)) (econs (xloc (nat_lit 9)) (econs (xloc (nat_lit 13)) (econs (xloc (nat_lit 14)) (econs (xloc (nat_lit 15)) (econs (xloc (nat_lit 16)) enil))))))))) (xlit (.int (.ofNat (nat_lit 0)))))))
    (sif (xcmp cne (xcall f_first_result (econs (xloc (nat_lit 7)) (econs (xloc (nat_lit 13)) (econs (xloc (nat_lit 14)) (econs (xloc (nat_lit 15)) (econs (xloc (nat_lit 16)) enil)))))) (xloc (nat_lit 17)))
     (sret (xlit (.bool false)))
     spass))
    spass)
   (sif (xcmp cne (xcall f_probe_kpk (econs (xloc (nat_lit 7)) (econs (xloc (nat_lit 8)) (econs (xsub (xloc (nat_lit 12)) (xlit (.int (.ofNat (nat_lit 0))))) (econs (xsub (xloc (nat_lit 12)) (xlit (.int (.ofNat (nat_lit 1))))) (econs (xsub (xloc (nat_lit 12)) (xlit (.int (.ofNat (nat_lit 2))))) (econs (xsub (xloc (nat_lit 12)) (xlit (.int (.ofNat (nat_lit 3))))) enil))))))) (xsub (xloc (nat_lit 11)) (xloc (nat_lit 12))))
    (sret (xlit (.bool false)))
    spass)))))
  spass)
-- 12 for at in range(3, len(s) - 3, 4):;    strong = s[at] % (size + 2);    pawn = (s
-- 13 return True
noncomputable def b_law_13 : XS :=
 (sret (xlit (.bool true)))
end
end Kp
end
-- part KpK
section
set_option autoImplicit false
namespace Kp
open PySem PySem.W
noncomputable section
noncomputable abbrev pg : Program := PySem.Challenge.pw_nt0434_01
noncomputable def stAt : List Stmt → Nat → Option Stmt
  | [], _ => none
  | s :: _, 0 => some s
  | _ :: r, n + 1 => stAt r n
noncomputable def inAt (o : Option Stmt) (n : Nat) : Option Stmt := match o with
  | some (.ClassDef _ _ _ body _ _ _ _ _ _ _) => stAt body n
  | _ => none
noncomputable def sv (x : String) (t : Tok) : Value := .str (Str.ofString x) t
noncomputable abbrev vi (i : Int) (t : Tok) : Value := .int i t
noncomputable abbrev vr (a : Addr) : Value := .ref a
noncomputable def en (P : Params) (x : String) (t : Tok) (v : Value) : DictEntry := { hash := PyData.keyHash P (Str.ofString x), key := .str (Str.ofString x) t, val := v }
noncomputable def fnO (o : Option Stmt) (q m : String) (t : Tok) (c : Addr) : Obj := match o with
  | some (.FunctionDef name args body _ _ _ scope _ _ _) => { cls := .type "function", data := .func { name := name, qualname := Str.ofString q, params := args, body := .stmts body, scope := scope, globals := 3, closure := [], defaults := .none, kwdefaults := .none, pyModule := .str (Str.ofString m) t, code := .ref c } }
  | _ => { cls := .none, data := .fields #[] }
noncomputable def kP (P : Params) : Frag := [
(2, { cls := Value.none, data := Data.dict #[en P "type.__subclasses__.Exception.0" 225 (vi 38 0), en P "type.__subclasses__.Exception.n" 226 (vi 1 0)] 2 }),
  (3, { cls := Value.type "dict", data := Data.dict #[en P "__name__" 165 (sv "law_nt0434_01" 616), en P "__doc__" 166 (Value.none), en P "__package__" 167 (Value.none), en P "__loader__" 168 (Value.builtin "__main__.__loader__#opaque"), en P "__spec__" 169 (Value.none), en P "__annotations__" 170 (vr 6), en P "__builtins__" 171 (vr 4), en P "__file__" 173 (sv "/claim/cut.py" 172), en P "__cached__" 174 (Value.none), en P "squares_of" 197 (vr 21), en P "ChessError" 228 (vr 38), en P "BadSquare" 253 (vr 58), en P "WHITE" 255 (vi 0 254), en P "BLACK" 257 (vi 1 256), en P "INVALID" 261 (vi 0 260), en P "UNKNOWN" 263 (vi 1 262), en P "DRAW" 265 (vi 2 264), en P "WIN" 267 (vi 4 266), en P "pawn_files" 274 (vr 67), en P "pawn_place" 282 (vr 74), en P "kpk_size" 289 (vr 81), en P "kpk_index" 300 (vr 88), en P "first_result" 315 (vr 95), en P "strong_results" 332 (vr 102), en P "weak_results" 347 (vr 109), en P "classify" 363 (vr 116), en P "settle_first" 378 (vr 123), en P "settle_round" 394 (vr 130), en P "build_kpk" 410 (vr 137), en P "mirrored" 419 (vr 144), en P "flipped" 428 (vr 151), en P "probe_kpk" 441 (vr 158), en P "probe_for" 454 (vr 165), en P "STEP_FILES" 468 (vr 166), en P "STEP_RANKS" 480 (vr 167), en P "Geometry" 525 (vr 184), en P "is_growing" 532 (vr 195), en P "add_masks" 543 (vr 202), en P "inner_squares" 552 (vr 209), en P "add_rays" 566 (vr 216), en P "add_pawns" 574 (vr 223), en P "add_knights" 591 (vr 230), en P "add_castles" 604 (vr 237), en P "make_geometry" 615 (vr 244), en P "_law_near" 631 (vr 251), en P "_law_after" 651 (vr 258), en P "_law_is_won" 660 (vr 265), en P "_law_solve" 684 (vr 272), en P "_law_mirror" 692 (vr 279), en P "_law_turn" 701 (vr 286), en P "law" 733 (vr 293)] 51 }),
  (20, { cls := Value.type "code", data := Data.fields #[sv "squares_of" 189, sv "squares_of" 190, sv "/claim/cut.py" 191, vi 2 0, vi 1 0, vi 0 0, vi 0 0, vi 3 0, vr 15, Value.bool Bool.true, vi 181 0, vr 16, Value.none, vr 17, vr 18, vr 19, vi 195 0, vi 2 0, sv "/claim/cut.py" 196] }),
  (21, fnO (stAt pg.main.body 1) "squares_of" "chess.bits" 187 20),
  (34, { cls := Value.type "code", data := Data.fields #[sv "__init__" 212, sv "ChessError.__init__" 213, sv "/claim/cut.py" 214, vi 17 0, vi 2 0, vi 0 0, vi 0 0, vi 3 0, vr 29, Value.bool Bool.true, vi 181 0, vr 30, Value.none, vr 31, vr 32, vr 33, vi 217 0, vi 17 0, sv "/claim/cut.py" 218] }),
  (35, fnO (inAt (stAt pg.main.body 3) 0) "ChessError.__init__" "chess.errors" 198 34),
  (37, { cls := Value.type "dict", data := Data.dict #[en P "__module__" 207 (sv "chess.errors" 198), en P "__firstlineno__" 211 (vi 15 210), en P "__init__" 219 (vr 35), en P "__static_attributes__" 221 (vr 36), en P "__weakref__" 223 (vr 39), en P "__doc__" 224 (Value.none)] 3 }),
  (38, { cls := Value.type "type", data := Data.cls { name := Str.ofString "ChessError", bases := [Value.type "Exception"], mro := [vr 38, Value.type "Exception", Value.type "BaseException", Value.type "object"], ns := 37, qualname := Str.ofString "ChessError", subclasses := [vr 58] }, slots := #[Option.some (vr 22), Option.none, Option.some (sv "ChessError" 200), Option.some (sv "ChessError" 208), Option.some (Value.builtin "Exception.__new__"), Option.some (Value.bool Bool.true)] }),
  (39, { cls := Value.type "getset_descriptor", data := Data.fields #[sv "__weakref__" 222, vr 38, Value.builtin "ExceptionGroup.__weakref__", Value.none] }),
  (54, { cls := Value.type "code", data := Data.fields #[sv "__init__" 241, sv "BadSquare.__init__" 242, sv "/claim/cut.py" 243, vi 22 0, vi 2 0, vi 0 0, vi 0 0, vi 3 0, vr 49, Value.bool Bool.true, vi 181 0, vr 50, Value.none, vr 51, vr 52, vr 53, vi 246 0, vi 22 0, sv "/claim/cut.py" 247] }),
  (55, fnO (inAt (stAt pg.main.body 4) 0) "BadSquare.__init__" "chess.errors" 198 54),
  (57, { cls := Value.type "dict", data := Data.dict #[en P "__module__" 236 (sv "chess.errors" 198), en P "__firstlineno__" 240 (vi 20 239), en P "__init__" 248 (vr 55), en P "__static_attributes__" 250 (vr 56), en P "__doc__" 251 (Value.none)] 2 }),
  (58, { cls := Value.type "type", data := Data.cls { name := Str.ofString "BadSquare", bases := [vr 38], mro := [vr 58, vr 38, Value.type "Exception", Value.type "BaseException", Value.type "object"], ns := 57, qualname := Str.ofString "BadSquare" }, slots := #[Option.some (vr 42), Option.none, Option.some (sv "BadSquare" 229), Option.some (sv "BadSquare" 237), Option.some (Value.builtin "Exception.__new__"), Option.some (Value.bool Bool.true)] }),
  (66, { cls := Value.type "code", data := Data.fields #[sv "pawn_files" 268, sv "pawn_files" 269, sv "/claim/cut.py" 270, vi 32 0, vi 1 0, vi 0 0, vi 0 0, vi 3 0, vr 61, Value.bool Bool.true, vi 181 0, vr 62, Value.none, vr 63, vr 64, vr 65, vi 272 0, vi 32 0, sv "/claim/cut.py" 273] }),
  (67, fnO (stAt pg.main.body 12) "pawn_files" "chess.kpk" 258 66),
  (73, { cls := Value.type "code", data := Data.fields #[sv "pawn_place" 275, sv "pawn_place" 276, sv "/claim/cut.py" 277, vi 34 0, vi 2 0, vi 0 0, vi 0 0, vi 3 0, vr 68, Value.bool Bool.true, vi 181 0, vr 69, Value.none, vr 70, vr 71, vr 72, vi 280 0, vi 34 0, sv "/claim/cut.py" 281] }),
  (74, fnO (stAt pg.main.body 13) "pawn_place" "chess.kpk" 258 73),
  (80, { cls := Value.type "code", data := Data.fields #[sv "kpk_size" 283, sv "kpk_size" 284, sv "/claim/cut.py" 285, vi 36 0, vi 1 0, vi 0 0, vi 0 0, vi 3 0, vr 75, Value.bool Bool.true, vi 181 0, vr 76, Value.none, vr 77, vr 78, vr 79, vi 287 0, vi 36 0, sv "/claim/cut.py" 288] }),
  (81, fnO (stAt pg.main.body 14) "kpk_size" "chess.kpk" 258 80),
  (87, { cls := Value.type "code", data := Data.fields #[sv "kpk_index" 290, sv "kpk_index" 291, sv "/claim/cut.py" 292, vi 38 0, vi 5 0, vi 0 0, vi 0 0, vi 3 0, vr 82, Value.bool Bool.true, vi 181 0, vr 83, Value.none, vr 84, vr 85, vr 86, vi 298 0, vi 38 0, sv "/claim/cut.py" 299] }),
  (88, fnO (stAt pg.main.body 15) "kpk_index" "chess.kpk" 258 87),
  (94, { cls := Value.type "code", data := Data.fields #[sv "first_result" 301, sv "first_result" 302, sv "/claim/cut.py" 303, vi 40 0, vi 5 0, vi 0 0, vi 0 0, vi 3 0, vr 89, Value.bool Bool.true, vi 181 0, vr 90, Value.none, vr 91, vr 92, vr 93, vi 313 0, vi 40 0, sv "/claim/cut.py" 314] }),
  (95, fnO (stAt pg.main.body 16) "first_result" "chess.kpk" 258 94),
  (101, { cls := Value.type "code", data := Data.fields #[sv "strong_results" 316, sv "strong_results" 317, sv "/claim/cut.py" 318, vi 59 0, vi 6 0, vi 0 0, vi 0 0, vi 3 0, vr 96, Value.bool Bool.true, vi 181 0, vr 97, Value.none, vr 98, vr 99, vr 100, vi 330 0, vi 59 0, sv "/claim/cut.py" 331] }),
  (102, fnO (stAt pg.main.body 17) "strong_results" "chess.kpk" 258 101),
  (108, { cls := Value.type "code", data := Data.fields #[sv "weak_results" 333, sv "weak_results" 334, sv "/claim/cut.py" 335, vi 71 0, vi 6 0, vi 0 0, vi 0 0, vi 3 0, vr 103, Value.bool Bool.true, vi 181 0, vr 104, Value.none, vr 105, vr 106, vr 107, vi 345 0, vi 71 0, sv "/claim/cut.py" 346] }),
  (109, fnO (stAt pg.main.body 18) "weak_results" "chess.kpk" 258 108),
  (115, { cls := Value.type "code", data := Data.fields #[sv "classify" 348, sv "classify" 349, sv "/claim/cut.py" 350, vi 77 0, vi 7 0, vi 0 0, vi 0 0, vi 3 0, vr 110, Value.bool Bool.true, vi 181 0, vr 111, Value.none, vr 112, vr 113, vr 114, vi 361 0, vi 77 0, sv "/claim/cut.py" 362] }),
  (116, fnO (stAt pg.main.body 19) "classify" "chess.kpk" 258 115),
  (122, { cls := Value.type "code", data := Data.fields #[sv "settle_first" 364, sv "settle_first" 365, sv "/claim/cut.py" 366, vi 91 0, vi 2 0, vi 0 0, vi 0 0, vi 3 0, vr 117, Value.bool Bool.true, vi 181 0, vr 118, Value.none, vr 119, vr 120, vr 121, vi 376 0, vi 91 0, sv "/claim/cut.py" 377] }),
  (123, fnO (stAt pg.main.body 20) "settle_first" "chess.kpk" 258 122),
  (129, { cls := Value.type "code", data := Data.fields #[sv "settle_round" 379, sv "settle_round" 380, sv "/claim/cut.py" 381, vi 104 0, vi 4 0, vi 0 0, vi 0 0, vi 3 0, vr 124, Value.bool Bool.true, vi 181 0, vr 125, Value.none, vr 126, vr 127, vr 128, vi 392 0, vi 104 0, sv "/claim/cut.py" 393] }),
  (130, fnO (stAt pg.main.body 21) "settle_round" "chess.kpk" 258 129),
  (136, { cls := Value.type "code", data := Data.fields #[sv "build_kpk" 395, sv "build_kpk" 396, sv "/claim/cut.py" 397, vi 113 0, vi 1 0, vi 0 0, vi 0 0, vi 3 0, vr 131, Value.bool Bool.true, vi 181 0, vr 132, Value.none, vr 133, vr 134, vr 135, vi 408 0, vi 113 0, sv "/claim/cut.py" 409] }),
  (137, fnO (stAt pg.main.body 22) "build_kpk" "chess.kpk" 258 136),
  (143, { cls := Value.type "code", data := Data.fields #[sv "mirrored" 411, sv "mirrored" 412, sv "/claim/cut.py" 413, vi 127 0, vi 2 0, vi 0 0, vi 0 0, vi 3 0, vr 138, Value.bool Bool.true, vi 181 0, vr 139, Value.none, vr 140, vr 141, vr 142, vi 417 0, vi 127 0, sv "/claim/cut.py" 418] }),
  (144, fnO (stAt pg.main.body 23) "mirrored" "chess.kpk" 258 143),
  (150, { cls := Value.type "code", data := Data.fields #[sv "flipped" 420, sv "flipped" 421, sv "/claim/cut.py" 422, vi 130 0, vi 2 0, vi 0 0, vi 0 0, vi 3 0, vr 145, Value.bool Bool.true, vi 181 0, vr 146, Value.none, vr 147, vr 148, vr 149, vi 426 0, vi 130 0, sv "/claim/cut.py" 427] }),
  (151, fnO (stAt pg.main.body 24) "flipped" "chess.kpk" 258 150),
  (157, { cls := Value.type "code", data := Data.fields #[sv "probe_kpk" 429, sv "probe_kpk" 430, sv "/claim/cut.py" 431, vi 133 0, vi 6 0, vi 0 0, vi 0 0, vi 3 0, vr 152, Value.bool Bool.true, vi 181 0, vr 153, Value.none, vr 154, vr 155, vr 156, vi 439 0, vi 133 0, sv "/claim/cut.py" 440] }),
  (158, fnO (stAt pg.main.body 25) "probe_kpk" "chess.kpk" 258 157),
  (164, { cls := Value.type "code", data := Data.fields #[sv "probe_for" 442, sv "probe_for" 443, sv "/claim/cut.py" 444, vi 144 0, vi 7 0, vi 0 0, vi 0 0, vi 3 0, vr 159, Value.bool Bool.true, vi 181 0, vr 160, Value.none, vr 161, vr 162, vr 163, vi 452 0, vi 144 0, sv "/claim/cut.py" 453] }),
  (165, fnO (stAt pg.main.body 26) "probe_for" "chess.kpk" 258 164),
  (166, { cls := Value.type "tuple", data := Data.seq #[vi 0 457, vi 1 458, vi 0 459, vi (-1) 461, vi 1 462, vi 1 463, vi (-1) 465, vi (-1) 467] }),
  (167, { cls := Value.type "tuple", data := Data.seq #[vi 1 469, vi 0 470, vi (-1) 472, vi 0 473, vi 1 474, vi (-1) 476, vi (-1) 478, vi 1 479] }),
  (180, { cls := Value.type "code", data := Data.fields #[sv "__init__" 493, sv "Geometry.__init__" 494, sv "/claim/cut.py" 495, vi 153 0, vi 5 0, vi 0 0, vi 0 0, vi 3 0, vr 175, Value.bool Bool.true, vi 181 0, vr 176, Value.none, vr 177, vr 178, vr 179, vi 501 0, vi 153 0, sv "/claim/cut.py" 502] }),
  (181, fnO (inAt (stAt pg.main.body 30) 0) "Geometry.__init__" "chess.geometry" 455 180),
  (183, { cls := Value.type "dict", data := Data.dict #[en P "__module__" 488 (sv "chess.geometry" 455), en P "__firstlineno__" 492 (vi 151 491), en P "__init__" 503 (vr 181), en P "__static_attributes__" 518 (vr 182), en P "__dict__" 520 (vr 185), en P "__weakref__" 522 (vr 186), en P "__doc__" 523 (Value.none)] 4 }),
  (184, { cls := Value.type "type", data := Data.cls { name := Str.ofString "Geometry", bases := [Value.type "object"], mro := [vr 184, Value.type "object"], ns := 183, qualname := Str.ofString "Geometry" }, slots := #[Option.none, Option.none, Option.some (sv "Geometry" 481), Option.some (sv "Geometry" 489), Option.some (Value.builtin "object.__new__"), Option.some (Value.bool Bool.true)] }),
  (185, { cls := Value.type "getset_descriptor", data := Data.fields #[sv "__dict__" 519, vr 184, Value.builtin "function.__dict__", Value.builtin "function.__dict__#set"] }),
  (186, { cls := Value.type "getset_descriptor", data := Data.fields #[sv "__weakref__" 521, vr 184, Value.builtin "ExceptionGroup.__weakref__", Value.none] }),
  (194, { cls := Value.type "code", data := Data.fields #[sv "is_growing" 526, sv "is_growing" 527, sv "/claim/cut.py" 528, vi 168 0, vi 1 0, vi 0 0, vi 0 0, vi 3 0, vr 189, Value.bool Bool.true, vi 181 0, vr 190, Value.none, vr 191, vr 192, vr 193, vi 530 0, vi 168 0, sv "/claim/cut.py" 531] }),
  (195, fnO (stAt pg.main.body 31) "is_growing" "chess.geometry" 455 194),
  (201, { cls := Value.type "code", data := Data.fields #[sv "add_masks" 533, sv "add_masks" 534, sv "/claim/cut.py" 535, vi 170 0, vi 1 0, vi 0 0, vi 0 0, vi 3 0, vr 196, Value.bool Bool.true, vi 181 0, vr 197, Value.none, vr 198, vr 199, vr 200, vi 541 0, vi 170 0, sv "/claim/cut.py" 542] }),
  (202, fnO (stAt pg.main.body 32) "add_masks" "chess.geometry" 455 201),
  (208, { cls := Value.type "code", data := Data.fields #[sv "inner_squares" 544, sv "inner_squares" 545, sv "/claim/cut.py" 546, vi 178 0, vi 2 0, vi 0 0, vi 0 0, vi 3 0, vr 203, Value.bool Bool.true, vi 181 0, vr 204, Value.none, vr 205, vr 206, vr 207, vi 550 0, vi 178 0, sv "/claim/cut.py" 551] }),
  (209, fnO (stAt pg.main.body 33) "inner_squares" "chess.geometry" 455 208),
  (215, { cls := Value.type "code", data := Data.fields #[sv "add_rays" 553, sv "add_rays" 554, sv "/claim/cut.py" 555, vi 189 0, vi 1 0, vi 0 0, vi 0 0, vi 3 0, vr 210, Value.bool Bool.true, vi 181 0, vr 211, Value.none, vr 212, vr 213, vr 214, vi 564 0, vi 189 0, sv "/claim/cut.py" 565] }),
  (216, fnO (stAt pg.main.body 34) "add_rays" "chess.geometry" 455 215),
  (222, { cls := Value.type "code", data := Data.fields #[sv "add_pawns" 567, sv "add_pawns" 568, sv "/claim/cut.py" 569, vi 204 0, vi 1 0, vi 0 0, vi 0 0, vi 3 0, vr 217, Value.bool Bool.true, vi 181 0, vr 218, Value.none, vr 219, vr 220, vr 221, vi 572 0, vi 204 0, sv "/claim/cut.py" 573] }),
  (223, fnO (stAt pg.main.body 35) "add_pawns" "chess.geometry" 455 222),
  (229, { cls := Value.type "code", data := Data.fields #[sv "add_knights" 575, sv "add_knights" 576, sv "/claim/cut.py" 577, vi 208 0, vi 1 0, vi 0 0, vi 0 0, vi 3 0, vr 224, Value.bool Bool.true, vi 181 0, vr 225, Value.none, vr 226, vr 227, vr 228, vi 589 0, vi 208 0, sv "/claim/cut.py" 590] }),
  (230, fnO (stAt pg.main.body 36) "add_knights" "chess.geometry" 455 229),
  (236, { cls := Value.type "code", data := Data.fields #[sv "add_castles" 592, sv "add_castles" 593, sv "/claim/cut.py" 594, vi 220 0, vi 1 0, vi 0 0, vi 0 0, vi 3 0, vr 231, Value.bool Bool.true, vi 181 0, vr 232, Value.none, vr 233, vr 234, vr 235, vi 602 0, vi 220 0, sv "/claim/cut.py" 603] }),
  (237, fnO (stAt pg.main.body 37) "add_castles" "chess.geometry" 455 236),
  (243, { cls := Value.type "code", data := Data.fields #[sv "make_geometry" 605, sv "make_geometry" 606, sv "/claim/cut.py" 607, vi 237 0, vi 4 0, vi 0 0, vi 0 0, vi 3 0, vr 238, Value.bool Bool.true, vi 181 0, vr 239, Value.none, vr 240, vr 241, vr 242, vi 613 0, vi 237 0, sv "/claim/cut.py" 614] }),
  (244, fnO (stAt pg.main.body 38) "make_geometry" "chess.geometry" 455 243),
  (250, { cls := Value.type "code", data := Data.fields #[sv "_law_near" 618, sv "_law_near" 619, sv "/claim/cut.py" 620, vi 248 0, vi 2 0, vi 0 0, vi 0 0, vi 3 0, vr 245, Value.bool Bool.true, vi 181 0, vr 246, Value.none, vr 247, vr 248, vr 249, vi 629 0, vi 248 0, sv "/claim/cut.py" 630] }),
  (251, fnO (stAt pg.main.body 40) "_law_near" "law_nt0434_01" 616 250),
  (257, { cls := Value.type "code", data := Data.fields #[sv "_law_after" 632, sv "_law_after" 633, sv "/claim/cut.py" 634, vi 259 0, vi 8 0, vi 0 0, vi 0 0, vi 3 0, vr 252, Value.bool Bool.true, vi 181 0, vr 253, Value.none, vr 254, vr 255, vr 256, vi 649 0, vi 259 0, sv "/claim/cut.py" 650] }),
  (258, fnO (stAt pg.main.body 41) "_law_after" "law_nt0434_01" 616 257),
  (264, { cls := Value.type "code", data := Data.fields #[sv "_law_is_won" 652, sv "_law_is_won" 653, sv "/claim/cut.py" 654, vi 294 0, vi 3 0, vi 0 0, vi 0 0, vi 3 0, vr 259, Value.bool Bool.true, vi 181 0, vr 260, Value.none, vr 261, vr 262, vr 263, vi 658 0, vi 294 0, sv "/claim/cut.py" 659] }),
  (265, fnO (stAt pg.main.body 42) "_law_is_won" "law_nt0434_01" 616 264),
  (271, { cls := Value.type "code", data := Data.fields #[sv "_law_solve" 661, sv "_law_solve" 662, sv "/claim/cut.py" 663, vi 298 0, vi 4 0, vi 0 0, vi 0 0, vi 3 0, vr 266, Value.bool Bool.true, vi 181 0, vr 267, Value.none, vr 268, vr 269, vr 270, vi 682 0, vi 298 0, sv "/claim/cut.py" 683] }),
  (272, fnO (stAt pg.main.body 43) "_law_solve" "law_nt0434_01" 616 271),
  (278, { cls := Value.type "code", data := Data.fields #[sv "_law_mirror" 685, sv "_law_mirror" 686, sv "/claim/cut.py" 687, vi 329 0, vi 2 0, vi 0 0, vi 0 0, vi 3 0, vr 273, Value.bool Bool.true, vi 181 0, vr 274, Value.none, vr 275, vr 276, vr 277, vi 690 0, vi 329 0, sv "/claim/cut.py" 691] }),
  (279, fnO (stAt pg.main.body 44) "_law_mirror" "law_nt0434_01" 616 278),
  (285, { cls := Value.type "code", data := Data.fields #[sv "_law_turn" 693, sv "_law_turn" 694, sv "/claim/cut.py" 695, vi 331 0, vi 3 0, vi 0 0, vi 0 0, vi 3 0, vr 280, Value.bool Bool.true, vi 181 0, vr 281, Value.none, vr 282, vr 283, vr 284, vi 699 0, vi 331 0, sv "/claim/cut.py" 700] }),
  (286, fnO (stAt pg.main.body 45) "_law_turn" "law_nt0434_01" 616 285),
  (292, { cls := Value.type "code", data := Data.fields #[sv "law" 702, sv "law" 703, sv "/claim/cut.py" 704, vi 333 0, vi 1 0, vi 0 0, vi 0 0, vi 3 0, vr 287, Value.bool Bool.true, vi 181 0, vr 288, Value.none, vr 289, vr 290, vr 291, vi 731 0, vi 333 0, sv "/claim/cut.py" 732] }),
  (293, fnO (stAt pg.main.body 46) "law" "law_nt0434_01" 616 292)]
noncomputable def a39 : List Nat := [2, 3, 20, 21, 34, 35, 37, 38, 39, 54, 55, 57, 58, 66, 67, 73, 74, 80, 81, 87, 88, 94, 95, 101, 102, 108, 109, 115, 116, 122, 123, 129, 130, 136, 137, 143, 144, 150, 151, 157, 158, 164, 165, 166, 167, 180, 181, 183, 184, 185, 186, 194, 195, 201, 202, 208, 209, 215, 216, 222, 223, 229, 230, 236, 237, 243, 244, 250, 251, 257, 258, 264, 265, 271, 272, 278, 279, 285, 286, 292, 293]
noncomputable def keepN : List Nat := [1, 3, 4, 5, 6, 8, 9, 10, 11, 12, 13, 14, 15, 16, 17, 18, 19, 20, 21, 22, 23, 24, 25, 26, 28, 29, 30, 31, 32, 33, 34, 35, 36, 37, 38, 40, 41, 42, 43, 44, 45, 46]
noncomputable def q39 : Program := view pg keepN
end
end Kp
end
-- part KpProofs
section
set_option autoImplicit false
set_option linter.unusedVariables false
set_option maxRecDepth 100000
set_option Elab.async false
namespace Kp
open PySem PySem.W PyProof.Rows PySem.Calls

structure Own (G : Base) : Prop where
  K : G.K = kP G.w.params
  C : G.C = 184
  fI : G.fI = 181
theorem Own.at {G : Base} (B : Own G) {a : Addr} {o : Obj} (h : (kP G.w.params).lookup a = some o) : G.h₀.get? a = some o := G.X _ _ (by rw [B.K]; exact h)
theorem Own.glob {G : Base} (B : Own G) {x : Str} {v : Value} (h : nsIn (kP G.w.params) mainGlobals x = some (some v)) : G.mg x = some v := mg_of G.X G.g (by rw [B.K]; exact h)
section
variable {G : Base}
theorem mg_WHITE (B : Own G) : G.mg "WHITE" = some (.int 0 254) := B.glob (by kernel_rfl)
theorem vr_WHITE (B : Own G) : ∀ φ h, (∀ b o, G.h₀.get? b = some o → h.get? b = some o) → VR φ h (.int 0) (.int 0 254) := fun _ _ _ => VR.mkInt _ _
theorem mg_BLACK (B : Own G) : G.mg "BLACK" = some (.int 1 256) := B.glob (by kernel_rfl)
theorem vr_BLACK (B : Own G) : ∀ φ h, (∀ b o, G.h₀.get? b = some o → h.get? b = some o) → VR φ h (.int 1) (.int 1 256) := fun _ _ _ => VR.mkInt _ _
theorem mg_INVALID (B : Own G) : G.mg "INVALID" = some (.int 0 260) := B.glob (by kernel_rfl)
theorem vr_INVALID (B : Own G) : ∀ φ h, (∀ b o, G.h₀.get? b = some o → h.get? b = some o) → VR φ h (.int 0) (.int 0 260) := fun _ _ _ => VR.mkInt _ _
theorem mg_UNKNOWN (B : Own G) : G.mg "UNKNOWN" = some (.int 1 262) := B.glob (by kernel_rfl)
theorem vr_UNKNOWN (B : Own G) : ∀ φ h, (∀ b o, G.h₀.get? b = some o → h.get? b = some o) → VR φ h (.int 1) (.int 1 262) := fun _ _ _ => VR.mkInt _ _
theorem mg_DRAW (B : Own G) : G.mg "DRAW" = some (.int 2 264) := B.glob (by kernel_rfl)
theorem vr_DRAW (B : Own G) : ∀ φ h, (∀ b o, G.h₀.get? b = some o → h.get? b = some o) → VR φ h (.int 2) (.int 2 264) := fun _ _ _ => VR.mkInt _ _
theorem mg_WIN (B : Own G) : G.mg "WIN" = some (.int 4 266) := B.glob (by kernel_rfl)
theorem vr_WIN (B : Own G) : ∀ φ h, (∀ b o, G.h₀.get? b = some o → h.get? b = some o) → VR φ h (.int 4) (.int 4 266) := fun _ _ _ => VR.mkInt _ _
theorem mg_STEP_FILES (B : Own G) : G.mg "STEP_FILES" = some (.ref 166) := B.glob (by kernel_rfl)
theorem vr_STEP_FILES (B : Own G) : ∀ φ h, (∀ b o, G.h₀.get? b = some o → h.get? b = some o) → VR φ h (.tup [.int (.ofNat (nat_lit 0)), .int (.ofNat (nat_lit 1)), .int (.ofNat (nat_lit 0)), .int (.negSucc (nat_lit 0)), .int (.ofNat (nat_lit 1)), .int (.ofNat (nat_lit 1)), .int (.negSucc (nat_lit 0)), .int (.negSucc (nat_lit 0))]) (.ref 166) := fun φ h k => ⟨166, _, rfl, ⟨_, k _ _ (B.at rfl), rfl, _, rfl⟩, VsR.cons (VR.mkInt _ _) (VsR.cons (VR.mkInt _ _) (VsR.cons (VR.mkInt _ _) (VsR.cons (VR.mkInt _ _) (VsR.cons (VR.mkInt _ _) (VsR.cons (VR.mkInt _ _) (VsR.cons (VR.mkInt _ _) (VsR.cons (VR.mkInt _ _) (VsR.nil))))))))⟩
theorem mg_STEP_RANKS (B : Own G) : G.mg "STEP_RANKS" = some (.ref 167) := B.glob (by kernel_rfl)
theorem vr_STEP_RANKS (B : Own G) : ∀ φ h, (∀ b o, G.h₀.get? b = some o → h.get? b = some o) → VR φ h (.tup [.int (.ofNat (nat_lit 1)), .int (.ofNat (nat_lit 0)), .int (.negSucc (nat_lit 0)), .int (.ofNat (nat_lit 0)), .int (.ofNat (nat_lit 1)), .int (.negSucc (nat_lit 0)), .int (.negSucc (nat_lit 0)), .int (.ofNat (nat_lit 1))]) (.ref 167) := fun φ h k => ⟨167, _, rfl, ⟨_, k _ _ (B.at rfl), rfl, _, rfl⟩, VsR.cons (VR.mkInt _ _) (VsR.cons (VR.mkInt _ _) (VsR.cons (VR.mkInt _ _) (VsR.cons (VR.mkInt _ _) (VsR.cons (VR.mkInt _ _) (VsR.cons (VR.mkInt _ _) (VsR.cons (VR.mkInt _ _) (VsR.cons (VR.mkInt _ _) (VsR.nil))))))))⟩
theorem ss_raise {f : Fx} {n : Nat} {st : Stmt} : SS G f n sraise st := fun A L φ η loc s kn kr kb kc hA S h => by cases h
theorem mg_Geometry (B : Own G) : G.mg "Geometry" = some (.ref G.C) := by rw [B.C]; exact B.glob (by kernel_rfl)
theorem keep_Geometry (B : Own G) : keepIn G.K (.ref G.C) = true := by rw [B.K, B.C]; kernel_rfl

theorem at_squares_of (B : Own G) : FnAt G "squares_of" 21 := ⟨B.glob (by kernel_rfl), _, _, B.at rfl, rfl⟩
theorem fs_squares_of (B : Own G) : FS G 1 f_squares_of 21 := by
  refine FS.of (G := G) (f := Fx.mk "squares_of" ?cs 21 (.ref 20) ["b", "out", "square"]) (n := 0) (fo := ?fo) (fname := ?p0) (params := ?p1) (body := ?p2) (doc := ?p3) (pm := ?p4) (ct := ?p5) (an := ?p6) ?ok (B.at ?hl) ?hd ?hcd ?hu ?hlen ?hcell ?hbind ?hb ?hco ?hgen
  case hl => exact rfl
  case hd => exact rfl
  case ok => exact ⟨rfl, by decide +kernel, by decide +kernel, by decide +kernel⟩
  case hcd => exact ⟨_, _, _, _, rfl, B.at (by rfl), rfl, rfl⟩
  case hu => rfl
  case hlen => decide
  case hcell => decide +kernel
  case hbind => intro us h; rcases us with _ | ⟨_, _ | ⟨_, us⟩⟩ <;> first | rfl | (exfalso; simp only [List.length_cons, List.length_nil] at h; omega)
  case hco => rfl
  case hgen => rfl
  case hb =>
    intro ok
    unfold b_squares_of
    exact (bs_cons (ss_set ok rfl (es_list ls_nil))
     (bs_cons (ss_set ok rfl (es_int rfl))
     (bs_cons (ss_while (TS.of (es_loc ok rfl))
      (bs_cons (ss_while (ts_not (TS.of (es_bin (op_and _) (es_loc ok rfl) (es_int rfl))))
       (bs_cons (ss_aug ok rfl (iop_shr _) (es_int rfl))
       (bs_one (ss_aug ok rfl (iop_add _) (es_int rfl)))))
      (bs_cons (ss_if (TS.of (es_bin (op_and _) (es_loc ok rfl) (es_int rfl)))
       (bs_one (ss_expr (es_append (es_loc ok rfl) (es_loc ok rfl) rfl) (by intro _; rfl)))
       bs_nil)
      (bs_cons (ss_aug ok rfl (iop_shr _) (es_int rfl))
      (bs_one (ss_aug ok rfl (iop_add _) (es_int rfl)))))))
     (bs_one (ss_ret (es_loc ok rfl))))))

theorem at_pawn_files (B : Own G) : FnAt G "pawn_files" 67 := ⟨B.glob (by kernel_rfl), _, _, B.at rfl, rfl⟩
theorem fs_pawn_files (B : Own G) : FS G 1 f_pawn_files 67 := by
  refine FS.of (G := G) (f := Fx.mk "pawn_files" ?cs 67 (.ref 66) ["geo"]) (n := 0) (fo := ?fo) (fname := ?p0) (params := ?p1) (body := ?p2) (doc := ?p3) (pm := ?p4) (ct := ?p5) (an := ?p6) ?ok (B.at ?hl) ?hd ?hcd ?hu ?hlen ?hcell ?hbind ?hb ?hco ?hgen
  case hl => exact rfl
  case hd => exact rfl
  case ok => exact ⟨rfl, by decide +kernel, by decide +kernel, by decide +kernel⟩
  case hcd => exact ⟨_, _, _, _, rfl, B.at (by rfl), rfl, rfl⟩
  case hu => rfl
  case hlen => decide
  case hcell => decide +kernel
  case hbind => intro us h; rcases us with _ | ⟨_, _ | ⟨_, us⟩⟩ <;> first | rfl | (exfalso; simp only [List.length_cons, List.length_nil] at h; omega)
  case hco => rfl
  case hgen => rfl
  case hb =>
    intro ok
    unfold b_pawn_files
    exact (bs_one (ss_ret (es_bin (op_div _) (es_bin (op_add _) (es_attr rfl (es_loc ok rfl)) (es_int rfl)) (es_int rfl))))

theorem at_pawn_place (B : Own G) : FnAt G "pawn_place" 74 := ⟨B.glob (by kernel_rfl), _, _, B.at rfl, rfl⟩
theorem fs_pawn_place (B : Own G) : FS G 1 f_pawn_place 74 := by
  refine FS.of (G := G) (f := Fx.mk "pawn_place" ?cs 74 (.ref 73) ["geo", "pawn"]) (n := 0) (fo := ?fo) (fname := ?p0) (params := ?p1) (body := ?p2) (doc := ?p3) (pm := ?p4) (ct := ?p5) (an := ?p6) ?ok (B.at ?hl) ?hd ?hcd ?hu ?hlen ?hcell ?hbind ?hb ?hco ?hgen
  case hl => exact rfl
  case hd => exact rfl
  case ok => exact ⟨rfl, by decide +kernel, by decide +kernel, by decide +kernel⟩
  case hcd => exact ⟨_, _, _, _, rfl, B.at (by rfl), rfl, rfl⟩
  case hu => rfl
  case hlen => decide
  case hcell => decide +kernel
  case hbind => intro us h; rcases us with _ | ⟨_, _ | ⟨_, _ | ⟨_, us⟩⟩⟩ <;> first | rfl | (exfalso; simp only [List.length_cons, List.length_nil] at h; omega)
  case hco => rfl
  case hgen => rfl
  case hb =>
    intro ok
    unfold b_pawn_place
    exact (bs_one (ss_ret (es_bin (op_sub _) (es_bin (op_add _) (es_bin (op_mul _) (es_bin (op_mod _) (es_loc ok rfl) (es_attr rfl (es_loc ok rfl))) (es_bin (op_sub _) (es_attr rfl (es_loc ok rfl)) (es_int rfl))) (es_bin (op_div _) (es_loc ok rfl) (es_attr rfl (es_loc ok rfl)))) (es_int rfl))))

theorem at_kpk_size (B : Own G) : FnAt G "kpk_size" 81 := ⟨B.glob (by kernel_rfl), _, _, B.at rfl, rfl⟩
theorem fs_kpk_size (B : Own G) : FS G 2 f_kpk_size 81 := by
  refine FS.of (G := G) (f := Fx.mk "kpk_size" ?cs 81 (.ref 80) ["geo"]) (n := 1) (fo := ?fo) (fname := ?p0) (params := ?p1) (body := ?p2) (doc := ?p3) (pm := ?p4) (ct := ?p5) (an := ?p6) ?ok (B.at ?hl) ?hd ?hcd ?hu ?hlen ?hcell ?hbind ?hb ?hco ?hgen
  case hl => exact rfl
  case hd => exact rfl
  case ok => exact ⟨rfl, by decide +kernel, by decide +kernel, by decide +kernel⟩
  case hcd => exact ⟨_, _, _, _, rfl, B.at (by rfl), rfl, rfl⟩
  case hu => rfl
  case hlen => decide
  case hcell => decide +kernel
  case hbind => intro us h; rcases us with _ | ⟨_, _ | ⟨_, us⟩⟩ <;> first | rfl | (exfalso; simp only [List.length_cons, List.length_nil] at h; omega)
  case hco => rfl
  case hgen => rfl
  case hb =>
    intro ok
    unfold b_kpk_size
    exact (bs_one (ss_ret (es_bin (op_mul _) (es_bin (op_mul _) (es_bin (op_mul _) (es_bin (op_mul _) (es_call ok (by kernel_rfl) (by kernel_rfl) (at_pawn_files B) ((fs_pawn_files B).more (by decide)) (ls_cons (es_loc ok rfl) ls_nil)) (es_bin (op_sub _) (es_attr rfl (es_loc ok rfl)) (es_int rfl))) (es_int rfl)) (es_attr rfl (es_loc ok rfl))) (es_attr rfl (es_loc ok rfl)))))

theorem at_kpk_index (B : Own G) : FnAt G "kpk_index" 88 := ⟨B.glob (by kernel_rfl), _, _, B.at rfl, rfl⟩
theorem fs_kpk_index (B : Own G) : FS G 2 f_kpk_index 88 := by
  refine FS.of (G := G) (f := Fx.mk "kpk_index" ?cs 88 (.ref 87) ["geo", "side", "strong", "pawn", "weak"]) (n := 1) (fo := ?fo) (fname := ?p0) (params := ?p1) (body := ?p2) (doc := ?p3) (pm := ?p4) (ct := ?p5) (an := ?p6) ?ok (B.at ?hl) ?hd ?hcd ?hu ?hlen ?hcell ?hbind ?hb ?hco ?hgen
  case hl => exact rfl
  case hd => exact rfl
  case ok => exact ⟨rfl, by decide +kernel, by decide +kernel, by decide +kernel⟩
  case hcd => exact ⟨_, _, _, _, rfl, B.at (by rfl), rfl, rfl⟩
  case hu => rfl
  case hlen => decide
  case hcell => decide +kernel
  case hbind => intro us h; rcases us with _ | ⟨_, _ | ⟨_, _ | ⟨_, _ | ⟨_, _ | ⟨_, _ | ⟨_, us⟩⟩⟩⟩⟩⟩ <;> first | rfl | (exfalso; simp only [List.length_cons, List.length_nil] at h; omega)
  case hco => rfl
  case hgen => rfl
  case hb =>
    intro ok
    unfold b_kpk_index
    exact (bs_one (ss_ret (es_bin (op_add _) (es_bin (op_mul _) (es_bin (op_add _) (es_bin (op_mul _) (es_bin (op_add _) (es_bin (op_mul _) (es_call ok (by kernel_rfl) (by kernel_rfl) (at_pawn_place B) ((fs_pawn_place B).more (by decide)) (ls_cons (es_loc ok rfl) (ls_cons (es_loc ok rfl) ls_nil))) (es_int rfl)) (es_loc ok rfl)) (es_attr rfl (es_loc ok rfl))) (es_loc ok rfl)) (es_attr rfl (es_loc ok rfl))) (es_loc ok rfl))))

theorem at_first_result (B : Own G) : FnAt G "first_result" 95 := ⟨B.glob (by kernel_rfl), _, _, B.at rfl, rfl⟩
theorem fs_first_result (B : Own G) : FS G 1 f_first_result 95 := by
  refine FS.of (G := G) (f := Fx.mk "first_result" ?cs 95 (.ref 94) ["geo", "side", "strong", "pawn", "weak", "steps", "guarded", "held", "goal"]) (n := 0) (fo := ?fo) (fname := ?p0) (params := ?p1) (body := ?p2) (doc := ?p3) (pm := ?p4) (ct := ?p5) (an := ?p6) ?ok (B.at ?hl) ?hd ?hcd ?hu ?hlen ?hcell ?hbind ?hb ?hco ?hgen
  case hl => exact rfl
  case hd => exact rfl
  case ok => exact ⟨rfl, by decide +kernel, by decide +kernel, by decide +kernel⟩
  case hcd => exact ⟨_, _, _, _, rfl, B.at (by rfl), rfl, rfl⟩
  case hu => rfl
  case hlen => decide
  case hcell => decide +kernel
  case hbind => intro us h; rcases us with _ | ⟨_, _ | ⟨_, _ | ⟨_, _ | ⟨_, _ | ⟨_, _ | ⟨_, us⟩⟩⟩⟩⟩⟩ <;> first | rfl | (exfalso; simp only [List.length_cons, List.length_nil] at h; omega)
  case hco => rfl
  case hgen => rfl
  case hb =>
    intro ok
    unfold b_first_result
    exact (bs_cons (ss_set ok rfl (es_sub (es_attr rfl (es_loc ok rfl)) (es_loc ok rfl)))
     (bs_cons (ss_set ok rfl (es_sub (es_attr rfl (es_loc ok rfl)) (es_loc ok rfl)))
     (bs_cons (ss_if (ts_bool (at_or (ts_cmp (cm_eq _) (es_loc ok rfl) (es_loc ok rfl)) (at_one (ts_cmp (cm_eq _) (es_loc ok rfl) (es_loc ok rfl)))))
      (bs_one (ss_ret (es_glob ok (by kernel_rfl) (mg_INVALID B) (vr_INVALID B) (by kernel_rfl))))
      bs_nil)
     (bs_cons (ss_set ok rfl (es_sub (es_sub (es_attr rfl (es_loc ok rfl)) (es_glob ok (by kernel_rfl) (mg_WHITE B) (vr_WHITE B) (by kernel_rfl))) (es_loc ok rfl)))
     (bs_cons (ss_if (ts_cmp (cm_eq _) (es_loc ok rfl) (es_glob ok (by kernel_rfl) (mg_WHITE B) (vr_WHITE B) (by kernel_rfl)))
      (bs_cons (ss_if (TS.of (es_bin (op_and _) (es_bin (op_shr _) (es_loc ok rfl) (es_loc ok rfl)) (es_int rfl)))
       (bs_one (ss_ret (es_glob ok (by kernel_rfl) (mg_INVALID B) (vr_INVALID B) (by kernel_rfl))))
       bs_nil)
      (bs_cons (ss_set ok rfl (es_bin (op_add _) (es_loc ok rfl) (es_attr rfl (es_loc ok rfl))))
      (bs_cons (ss_if (ts_bool (at_and (ts_cmp (cm_eq _) (es_bin (op_div _) (es_loc ok rfl) (es_attr rfl (es_loc ok rfl))) (es_bin (op_sub _) (es_attr rfl (es_loc ok rfl)) (es_int rfl))) (at_and (ts_cmp (cm_ne _) (es_loc ok rfl) (es_loc ok rfl)) (at_one (ts_cmp (cm_ne _) (es_loc ok rfl) (es_loc ok rfl))))))
       (bs_one (ss_if (ts_bool (at_or (ts_not (TS.of (es_bin (op_and _) (es_bin (op_shr _) (es_loc ok rfl) (es_loc ok rfl)) (es_int rfl)))) (at_one (TS.of (es_bin (op_and _) (es_bin (op_shr _) (es_loc ok rfl) (es_loc ok rfl)) (es_int rfl))))))
        (bs_one (ss_ret (es_glob ok (by kernel_rfl) (mg_WIN B) (vr_WIN B) (by kernel_rfl))))
        bs_nil))
       bs_nil)
      (bs_one (ss_ret (es_glob ok (by kernel_rfl) (mg_UNKNOWN B) (vr_UNKNOWN B) (by kernel_rfl)))))))
      bs_nil)
     (bs_cons (ss_if (ts_cmp (cm_eq _) (es_bin (op_and _) (es_loc ok rfl) (es_bin (op_or _) (es_loc ok rfl) (es_loc ok rfl))) (es_loc ok rfl))
      (bs_one (ss_ret (es_glob ok (by kernel_rfl) (mg_DRAW B) (vr_DRAW B) (by kernel_rfl))))
      bs_nil)
     (bs_cons (ss_if (ts_bool (at_and (TS.of (es_bin (op_and _) (es_bin (op_shr _) (es_loc ok rfl) (es_loc ok rfl)) (es_int rfl))) (at_one (ts_not (TS.of (es_bin (op_and _) (es_bin (op_shr _) (es_loc ok rfl) (es_loc ok rfl)) (es_int rfl)))))))
      (bs_one (ss_ret (es_glob ok (by kernel_rfl) (mg_DRAW B) (vr_DRAW B) (by kernel_rfl))))
      bs_nil)
     (bs_one (ss_ret (es_glob ok (by kernel_rfl) (mg_UNKNOWN B) (vr_UNKNOWN B) (by kernel_rfl)))))))))))

theorem at_strong_results (B : Own G) : FnAt G "strong_results" 102 := ⟨B.glob (by kernel_rfl), _, _, B.at rfl, rfl⟩
theorem fs_strong_results (B : Own G) : FS G 3 f_strong_results 102 := by
  refine FS.of (G := G) (f := Fx.mk "strong_results" ?cs 102 (.ref 101) ["geo", "base", "steps", "strong", "pawn", "weak", "found", "start", "goal", "rank", "ahead"]) (n := 2) (fo := ?fo) (fname := ?p0) (params := ?p1) (body := ?p2) (doc := ?p3) (pm := ?p4) (ct := ?p5) (an := ?p6) ?ok (B.at ?hl) ?hd ?hcd ?hu ?hlen ?hcell ?hbind ?hb ?hco ?hgen
  case hl => exact rfl
  case hd => exact rfl
  case ok => exact ⟨rfl, by decide +kernel, by decide +kernel, by decide +kernel⟩
  case hcd => exact ⟨_, _, _, _, rfl, B.at (by rfl), rfl, rfl⟩
  case hu => rfl
  case hlen => decide
  case hcell => decide +kernel
  case hbind => intro us h; rcases us with _ | ⟨_, _ | ⟨_, _ | ⟨_, _ | ⟨_, _ | ⟨_, _ | ⟨_, _ | ⟨_, us⟩⟩⟩⟩⟩⟩⟩ <;> first | rfl | (exfalso; simp only [List.length_cons, List.length_nil] at h; omega)
  case hco => rfl
  case hgen => rfl
  case hb =>
    intro ok
    unfold b_strong_results
    exact (bs_cons (ss_set ok rfl (es_glob ok (by kernel_rfl) (mg_INVALID B) (vr_INVALID B) (by kernel_rfl)))
     (bs_cons (ss_set ok rfl (es_call ok (by kernel_rfl) (by kernel_rfl) (at_kpk_index B) ((fs_kpk_index B).more (by decide)) (ls_cons (es_loc ok rfl) (ls_cons (es_glob ok (by kernel_rfl) (mg_BLACK B) (vr_BLACK B) (by kernel_rfl)) (ls_cons (es_int rfl) (ls_cons (es_loc ok rfl) (ls_cons (es_loc ok rfl) ls_nil)))))))
     (bs_cons (ss_for (tgt_var ok rfl) (es_sub (es_loc ok rfl) (es_loc ok rfl))
      (bs_one (ss_aug ok rfl (iop_or _) (es_sub (es_loc ok rfl) (es_bin (op_add _) (es_loc ok rfl) (es_loc ok rfl))))))
     (bs_cons (ss_set ok rfl (es_bin (op_div _) (es_loc ok rfl) (es_attr rfl (es_loc ok rfl))))
     (bs_cons (ss_if (ts_cmp (cm_lt _) (es_loc ok rfl) (es_bin (op_sub _) (es_attr rfl (es_loc ok rfl)) (es_int rfl)))
      (bs_cons (ss_set ok rfl (es_bin (op_add _) (es_loc ok rfl) (es_attr rfl (es_loc ok rfl))))
      (bs_cons (ss_aug ok rfl (iop_or _) (es_sub (es_loc ok rfl) (es_call ok (by kernel_rfl) (by kernel_rfl) (at_kpk_index B) ((fs_kpk_index B).more (by decide)) (ls_cons (es_loc ok rfl) (ls_cons (es_glob ok (by kernel_rfl) (mg_BLACK B) (vr_BLACK B) (by kernel_rfl)) (ls_cons (es_loc ok rfl) (ls_cons (es_loc ok rfl) (ls_cons (es_loc ok rfl) ls_nil))))))))
      (bs_one (ss_if (ts_bool (at_and (ts_cmp (cm_eq _) (es_loc ok rfl) (es_int rfl)) (at_and (TS.of (es_attr rfl (es_loc ok rfl))) (at_and (ts_cmp (cm_ne _) (es_loc ok rfl) (es_loc ok rfl)) (at_one (ts_cmp (cm_ne _) (es_loc ok rfl) (es_loc ok rfl)))))))
       (bs_one (ss_aug ok rfl (iop_or _) (es_sub (es_loc ok rfl) (es_call ok (by kernel_rfl) (by kernel_rfl) (at_kpk_index B) ((fs_kpk_index B).more (by decide)) (ls_cons (es_loc ok rfl) (ls_cons (es_glob ok (by kernel_rfl) (mg_BLACK B) (vr_BLACK B) (by kernel_rfl)) (ls_cons (es_loc ok rfl) (ls_cons (es_bin (op_add _) (es_loc ok rfl) (es_attr rfl (es_loc ok rfl))) (ls_cons (es_loc ok rfl) ls_nil)))))))))
       bs_nil))))
      bs_nil)
     (bs_one (ss_ret (es_loc ok rfl))))))))

theorem at_weak_results (B : Own G) : FnAt G "weak_results" 109 := ⟨B.glob (by kernel_rfl), _, _, B.at rfl, rfl⟩
theorem fs_weak_results (B : Own G) : FS G 3 f_weak_results 109 := by
  refine FS.of (G := G) (f := Fx.mk "weak_results" ?cs 109 (.ref 108) ["geo", "base", "steps", "strong", "pawn", "weak", "found", "start", "goal"]) (n := 2) (fo := ?fo) (fname := ?p0) (params := ?p1) (body := ?p2) (doc := ?p3) (pm := ?p4) (ct := ?p5) (an := ?p6) ?ok (B.at ?hl) ?hd ?hcd ?hu ?hlen ?hcell ?hbind ?hb ?hco ?hgen
  case hl => exact rfl
  case hd => exact rfl
  case ok => exact ⟨rfl, by decide +kernel, by decide +kernel, by decide +kernel⟩
  case hcd => exact ⟨_, _, _, _, rfl, B.at (by rfl), rfl, rfl⟩
  case hu => rfl
  case hlen => decide
  case hcell => decide +kernel
  case hbind => intro us h; rcases us with _ | ⟨_, _ | ⟨_, _ | ⟨_, _ | ⟨_, _ | ⟨_, _ | ⟨_, _ | ⟨_, us⟩⟩⟩⟩⟩⟩⟩ <;> first | rfl | (exfalso; simp only [List.length_cons, List.length_nil] at h; omega)
  case hco => rfl
  case hgen => rfl
  case hb =>
    intro ok
    unfold b_weak_results
    exact (bs_cons (ss_set ok rfl (es_glob ok (by kernel_rfl) (mg_INVALID B) (vr_INVALID B) (by kernel_rfl)))
     (bs_cons (ss_set ok rfl (es_call ok (by kernel_rfl) (by kernel_rfl) (at_kpk_index B) ((fs_kpk_index B).more (by decide)) (ls_cons (es_loc ok rfl) (ls_cons (es_glob ok (by kernel_rfl) (mg_WHITE B) (vr_WHITE B) (by kernel_rfl)) (ls_cons (es_loc ok rfl) (ls_cons (es_loc ok rfl) (ls_cons (es_int rfl) ls_nil)))))))
     (bs_cons (ss_for (tgt_var ok rfl) (es_sub (es_loc ok rfl) (es_loc ok rfl))
      (bs_one (ss_aug ok rfl (iop_or _) (es_sub (es_loc ok rfl) (es_bin (op_add _) (es_loc ok rfl) (es_bin (op_mul _) (es_loc ok rfl) (es_attr rfl (es_loc ok rfl))))))))
     (bs_one (ss_ret (es_loc ok rfl))))))

theorem at_classify (B : Own G) : FnAt G "classify" 116 := ⟨B.glob (by kernel_rfl), _, _, B.at rfl, rfl⟩
theorem fs_classify (B : Own G) : FS G 4 f_classify 116 := by
  refine FS.of (G := G) (f := Fx.mk "classify" ?cs 116 (.ref 115) ["geo", "base", "steps", "side", "strong", "pawn", "weak", "found", "good", "bad"]) (n := 3) (fo := ?fo) (fname := ?p0) (params := ?p1) (body := ?p2) (doc := ?p3) (pm := ?p4) (ct := ?p5) (an := ?p6) ?ok (B.at ?hl) ?hd ?hcd ?hu ?hlen ?hcell ?hbind ?hb ?hco ?hgen
  case hl => exact rfl
  case hd => exact rfl
  case ok => exact ⟨rfl, by decide +kernel, by decide +kernel, by decide +kernel⟩
  case hcd => exact ⟨_, _, _, _, rfl, B.at (by rfl), rfl, rfl⟩
  case hu => rfl
  case hlen => decide
  case hcell => decide +kernel
  case hbind => intro us h; rcases us with _ | ⟨_, _ | ⟨_, _ | ⟨_, _ | ⟨_, _ | ⟨_, _ | ⟨_, _ | ⟨_, _ | ⟨_, us⟩⟩⟩⟩⟩⟩⟩⟩ <;> first | rfl | (exfalso; simp only [List.length_cons, List.length_nil] at h; omega)
  case hco => rfl
  case hgen => rfl
  case hb =>
    intro ok
    unfold b_classify
    exact (bs_cons (ss_if (ts_cmp (cm_eq _) (es_loc ok rfl) (es_glob ok (by kernel_rfl) (mg_WHITE B) (vr_WHITE B) (by kernel_rfl)))
      (bs_cons (ss_set ok rfl (es_call ok (by kernel_rfl) (by kernel_rfl) (at_strong_results B) ((fs_strong_results B).more (by decide)) (ls_cons (es_loc ok rfl) (ls_cons (es_loc ok rfl) (ls_cons (es_loc ok rfl) (ls_cons (es_loc ok rfl) (ls_cons (es_loc ok rfl) (ls_cons (es_loc ok rfl) ls_nil))))))))
      (bs_cons (ss_set ok rfl (es_glob ok (by kernel_rfl) (mg_WIN B) (vr_WIN B) (by kernel_rfl)))
      (bs_one (ss_set ok rfl (es_glob ok (by kernel_rfl) (mg_DRAW B) (vr_DRAW B) (by kernel_rfl))))))
      (bs_cons (ss_set ok rfl (es_call ok (by kernel_rfl) (by kernel_rfl) (at_weak_results B) ((fs_weak_results B).more (by decide)) (ls_cons (es_loc ok rfl) (ls_cons (es_loc ok rfl) (ls_cons (es_loc ok rfl) (ls_cons (es_loc ok rfl) (ls_cons (es_loc ok rfl) (ls_cons (es_loc ok rfl) ls_nil))))))))
      (bs_cons (ss_set ok rfl (es_glob ok (by kernel_rfl) (mg_DRAW B) (vr_DRAW B) (by kernel_rfl)))
      (bs_one (ss_set ok rfl (es_glob ok (by kernel_rfl) (mg_WIN B) (vr_WIN B) (by kernel_rfl)))))))
     (bs_cons (ss_if (TS.of (es_bin (op_and _) (es_loc ok rfl) (es_loc ok rfl)))
      (bs_one (ss_ret (es_loc ok rfl)))
      bs_nil)
     (bs_cons (ss_if (TS.of (es_bin (op_and _) (es_loc ok rfl) (es_glob ok (by kernel_rfl) (mg_UNKNOWN B) (vr_UNKNOWN B) (by kernel_rfl))))
      (bs_one (ss_ret (es_glob ok (by kernel_rfl) (mg_UNKNOWN B) (vr_UNKNOWN B) (by kernel_rfl))))
      bs_nil)
     (bs_one (ss_ret (es_loc ok rfl))))))

theorem at_settle_first (B : Own G) : FnAt G "settle_first" 123 := ⟨B.glob (by kernel_rfl), _, _, B.at rfl, rfl⟩
theorem fs_settle_first (B : Own G) : FS G 3 f_settle_first 123 := by
  refine FS.of (G := G) (f := Fx.mk "settle_first" ?cs 123 (.ref 122) ["geo", "base", "unknown", "pawn", "weak", "far", "strong", "side", "result"]) (n := 2) (fo := ?fo) (fname := ?p0) (params := ?p1) (body := ?p2) (doc := ?p3) (pm := ?p4) (ct := ?p5) (an := ?p6) ?ok (B.at ?hl) ?hd ?hcd ?hu ?hlen ?hcell ?hbind ?hb ?hco ?hgen
  case hl => exact rfl
  case hd => exact rfl
  case ok => exact ⟨rfl, by decide +kernel, by decide +kernel, by decide +kernel⟩
  case hcd => exact ⟨_, _, _, _, rfl, B.at (by rfl), rfl, rfl⟩
  case hu => rfl
  case hlen => decide
  case hcell => decide +kernel
  case hbind => intro us h; rcases us with _ | ⟨_, _ | ⟨_, _ | ⟨_, us⟩⟩⟩ <;> first | rfl | (exfalso; simp only [List.length_cons, List.length_nil] at h; omega)
  case hco => rfl
  case hgen => rfl
  case hb =>
    intro ok
    unfold b_settle_first
    exact (bs_cons (ss_set ok rfl (es_list ls_nil))
     (bs_cons (ss_for (tgt_var ok rfl) (es_range3 ok (by kernel_rfl) (es_bin (op_sub _) (es_bin (op_sub _) (es_attr rfl (es_loc ok rfl)) (es_attr rfl (es_loc ok rfl))) (es_int rfl)) (es_bin (op_sub _) (es_attr rfl (es_loc ok rfl)) (es_int rfl)) (es_neg (es_int rfl)))
      (bs_one (ss_if (ts_cmp (cm_lt _) (es_bin (op_mod _) (es_loc ok rfl) (es_attr rfl (es_loc ok rfl))) (es_call ok (by kernel_rfl) (by kernel_rfl) (at_pawn_files B) ((fs_pawn_files B).more (by decide)) (ls_cons (es_loc ok rfl) ls_nil)))
       (bs_one (ss_for (tgt_var ok rfl) (es_range1 ok (by kernel_rfl) (es_attr rfl (es_loc ok rfl)))
        (bs_cons (ss_set ok rfl (es_call ok (by kernel_rfl) (by kernel_rfl) (at_squares_of B) ((fs_squares_of B).more (by decide)) (ls_cons (es_bin (op_xor _) (es_attr rfl (es_loc ok rfl)) (es_bin (op_or _) (es_sub (es_attr rfl (es_loc ok rfl)) (es_loc ok rfl)) (es_bin (op_shl _) (es_int rfl) (es_loc ok rfl)))) ls_nil)))
        (bs_one (ss_for (tgt_var ok rfl) (es_loc ok rfl)
         (bs_one (ss_for (tgt_var ok rfl) (es_tup (ls_cons (es_glob ok (by kernel_rfl) (mg_WHITE B) (vr_WHITE B) (by kernel_rfl)) (ls_cons (es_glob ok (by kernel_rfl) (mg_BLACK B) (vr_BLACK B) (by kernel_rfl)) ls_nil)))
          (bs_cons (ss_set ok rfl (es_call ok (by kernel_rfl) (by kernel_rfl) (at_first_result B) ((fs_first_result B).more (by decide)) (ls_cons (es_loc ok rfl) (ls_cons (es_loc ok rfl) (ls_cons (es_loc ok rfl) (ls_cons (es_loc ok rfl) (ls_cons (es_loc ok rfl) ls_nil)))))))
          (bs_cons (ss_ssub (es_loc ok rfl) (es_call ok (by kernel_rfl) (by kernel_rfl) (at_kpk_index B) ((fs_kpk_index B).more (by decide)) (ls_cons (es_loc ok rfl) (ls_cons (es_loc ok rfl) (ls_cons (es_loc ok rfl) (ls_cons (es_loc ok rfl) (ls_cons (es_loc ok rfl) ls_nil)))))) (es_loc ok rfl))
          (bs_one (ss_if (ts_cmp (cm_eq _) (es_loc ok rfl) (es_glob ok (by kernel_rfl) (mg_UNKNOWN B) (vr_UNKNOWN B) (by kernel_rfl)))
           (bs_one (ss_expr (es_append (es_loc ok rfl) (es_tup (ls_cons (es_loc ok rfl) (ls_cons (es_loc ok rfl) (ls_cons (es_loc ok rfl) (ls_cons (es_loc ok rfl) ls_nil))))) rfl) (by intro _; rfl)))
           bs_nil)))))))))))
       bs_nil)))
     (bs_one (ss_ret (es_loc ok rfl)))))

theorem at_settle_round (B : Own G) : FnAt G "settle_round" 130 := ⟨B.glob (by kernel_rfl), _, _, B.at rfl, rfl⟩
theorem fs_settle_round (B : Own G) : FS G 5 f_settle_round 130 := by
  refine FS.of (G := G) (f := Fx.mk "settle_round" ?cs 130 (.ref 129) ["geo", "base", "steps", "unknown", "left", "side", "strong", "pawn", "weak", "result"]) (n := 4) (fo := ?fo) (fname := ?p0) (params := ?p1) (body := ?p2) (doc := ?p3) (pm := ?p4) (ct := ?p5) (an := ?p6) ?ok (B.at ?hl) ?hd ?hcd ?hu ?hlen ?hcell ?hbind ?hb ?hco ?hgen
  case hl => exact rfl
  case hd => exact rfl
  case ok => exact ⟨rfl, by decide +kernel, by decide +kernel, by decide +kernel⟩
  case hcd => exact ⟨_, _, _, _, rfl, B.at (by rfl), rfl, rfl⟩
  case hu => rfl
  case hlen => decide
  case hcell => decide +kernel
  case hbind => intro us h; rcases us with _ | ⟨_, _ | ⟨_, _ | ⟨_, _ | ⟨_, _ | ⟨_, us⟩⟩⟩⟩⟩ <;> first | rfl | (exfalso; simp only [List.length_cons, List.length_nil] at h; omega)
  case hco => rfl
  case hgen => rfl
  case hb =>
    intro ok
    unfold b_settle_round
    exact (bs_cons (ss_set ok rfl (es_list ls_nil))
     (bs_cons (ss_for (tgt_tup ok (he_cons rfl (he_cons rfl (he_cons rfl (he_cons rfl he_nil)))) rfl) (es_loc ok rfl)
      (bs_cons (ss_set ok rfl (es_call ok (by kernel_rfl) (by kernel_rfl) (at_classify B) ((fs_classify B).more (by decide)) (ls_cons (es_loc ok rfl) (ls_cons (es_loc ok rfl) (ls_cons (es_loc ok rfl) (ls_cons (es_loc ok rfl) (ls_cons (es_loc ok rfl) (ls_cons (es_loc ok rfl) (ls_cons (es_loc ok rfl) ls_nil)))))))))
      (bs_one (ss_if (ts_cmp (cm_eq _) (es_loc ok rfl) (es_glob ok (by kernel_rfl) (mg_UNKNOWN B) (vr_UNKNOWN B) (by kernel_rfl)))
       (bs_one (ss_expr (es_append (es_loc ok rfl) (es_tup (ls_cons (es_loc ok rfl) (ls_cons (es_loc ok rfl) (ls_cons (es_loc ok rfl) (ls_cons (es_loc ok rfl) ls_nil))))) rfl) (by intro _; rfl)))
       (bs_one (ss_ssub (es_loc ok rfl) (es_call ok (by kernel_rfl) (by kernel_rfl) (at_kpk_index B) ((fs_kpk_index B).more (by decide)) (ls_cons (es_loc ok rfl) (ls_cons (es_loc ok rfl) (ls_cons (es_loc ok rfl) (ls_cons (es_loc ok rfl) (ls_cons (es_loc ok rfl) ls_nil)))))) (es_loc ok rfl)))))))
     (bs_one (ss_ret (es_loc ok rfl)))))

theorem at_build_kpk (B : Own G) : FnAt G "build_kpk" 137 := ⟨B.glob (by kernel_rfl), _, _, B.at rfl, rfl⟩
theorem fs_build_kpk (B : Own G) : FS G 6 f_build_kpk 137 := by
  refine FS.of (G := G) (f := Fx.mk "build_kpk" ?cs 137 (.ref 136) ["geo", "base", "steps", "square", "unknown", "left", "side", "strong", "pawn", "weak"]) (n := 5) (fo := ?fo) (fname := ?p0) (params := ?p1) (body := ?p2) (doc := ?p3) (pm := ?p4) (ct := ?p5) (an := ?p6) ?ok (B.at ?hl) ?hd ?hcd ?hu ?hlen ?hcell ?hbind ?hb ?hco ?hgen
  case hl => exact rfl
  case hd => exact rfl
  case ok => exact ⟨rfl, by decide +kernel, by decide +kernel, by decide +kernel⟩
  case hcd => exact ⟨_, _, _, _, rfl, B.at (by rfl), rfl, rfl⟩
  case hu => rfl
  case hlen => decide
  case hcell => decide +kernel
  case hbind => intro us h; rcases us with _ | ⟨_, _ | ⟨_, us⟩⟩ <;> first | rfl | (exfalso; simp only [List.length_cons, List.length_nil] at h; omega)
  case hco => rfl
  case hgen => rfl
  case hb =>
    intro ok
    unfold b_build_kpk
    exact (bs_cons (ss_set ok rfl (es_rep (es_glob ok (by kernel_rfl) (mg_INVALID B) (vr_INVALID B) (by kernel_rfl)) (es_call ok (by kernel_rfl) (by kernel_rfl) (at_kpk_size B) ((fs_kpk_size B).more (by decide)) (ls_cons (es_loc ok rfl) ls_nil))))
     (bs_cons (ss_set ok rfl (es_list ls_nil))
     (bs_cons (ss_for (tgt_var ok rfl) (es_range1 ok (by kernel_rfl) (es_attr rfl (es_loc ok rfl)))
      (bs_one (ss_expr (es_append (es_loc ok rfl) (es_call ok (by kernel_rfl) (by kernel_rfl) (at_squares_of B) ((fs_squares_of B).more (by decide)) (ls_cons (es_sub (es_attr rfl (es_loc ok rfl)) (es_loc ok rfl)) ls_nil)) rfl) (by intro _; rfl))))
     (bs_cons (ss_set ok rfl (es_call ok (by kernel_rfl) (by kernel_rfl) (at_settle_first B) ((fs_settle_first B).more (by decide)) (ls_cons (es_loc ok rfl) (ls_cons (es_loc ok rfl) ls_nil))))
     (bs_cons (ss_while (TS.of es_bool)
      (bs_cons (ss_set ok rfl (es_call ok (by kernel_rfl) (by kernel_rfl) (at_settle_round B) ((fs_settle_round B).more (by decide)) (ls_cons (es_loc ok rfl) (ls_cons (es_loc ok rfl) (ls_cons (es_loc ok rfl) (ls_cons (es_loc ok rfl) ls_nil))))))
      (bs_cons (ss_if (ts_cmp (cm_eq _) (es_len ok (by kernel_rfl) (es_loc ok rfl)) (es_len ok (by kernel_rfl) (es_loc ok rfl)))
       (bs_one ss_break)
       bs_nil)
      (bs_one (ss_set ok rfl (es_loc ok rfl))))))
     (bs_cons (ss_for (tgt_tup ok (he_cons rfl (he_cons rfl (he_cons rfl (he_cons rfl he_nil)))) rfl) (es_loc ok rfl)
      (bs_one (ss_ssub (es_loc ok rfl) (es_call ok (by kernel_rfl) (by kernel_rfl) (at_kpk_index B) ((fs_kpk_index B).more (by decide)) (ls_cons (es_loc ok rfl) (ls_cons (es_loc ok rfl) (ls_cons (es_loc ok rfl) (ls_cons (es_loc ok rfl) (ls_cons (es_loc ok rfl) ls_nil)))))) (es_glob ok (by kernel_rfl) (mg_DRAW B) (vr_DRAW B) (by kernel_rfl)))))
     (bs_one (ss_ret (es_loc ok rfl)))))))))

theorem at_mirrored (B : Own G) : FnAt G "mirrored" 144 := ⟨B.glob (by kernel_rfl), _, _, B.at rfl, rfl⟩
theorem fs_mirrored (B : Own G) : FS G 1 f_mirrored 144 := by
  refine FS.of (G := G) (f := Fx.mk "mirrored" ?cs 144 (.ref 143) ["geo", "square", "file"]) (n := 0) (fo := ?fo) (fname := ?p0) (params := ?p1) (body := ?p2) (doc := ?p3) (pm := ?p4) (ct := ?p5) (an := ?p6) ?ok (B.at ?hl) ?hd ?hcd ?hu ?hlen ?hcell ?hbind ?hb ?hco ?hgen
  case hl => exact rfl
  case hd => exact rfl
  case ok => exact ⟨rfl, by decide +kernel, by decide +kernel, by decide +kernel⟩
  case hcd => exact ⟨_, _, _, _, rfl, B.at (by rfl), rfl, rfl⟩
  case hu => rfl
  case hlen => decide
  case hcell => decide +kernel
  case hbind => intro us h; rcases us with _ | ⟨_, _ | ⟨_, _ | ⟨_, us⟩⟩⟩ <;> first | rfl | (exfalso; simp only [List.length_cons, List.length_nil] at h; omega)
  case hco => rfl
  case hgen => rfl
  case hb =>
    intro ok
    unfold b_mirrored
    exact (bs_cons (ss_set ok rfl (es_bin (op_mod _) (es_loc ok rfl) (es_attr rfl (es_loc ok rfl))))
     (bs_one (ss_ret (es_bin (op_sub _) (es_bin (op_sub _) (es_bin (op_add _) (es_bin (op_sub _) (es_loc ok rfl) (es_loc ok rfl)) (es_attr rfl (es_loc ok rfl))) (es_int rfl)) (es_loc ok rfl)))))

theorem at_flipped (B : Own G) : FnAt G "flipped" 151 := ⟨B.glob (by kernel_rfl), _, _, B.at rfl, rfl⟩
theorem fs_flipped (B : Own G) : FS G 1 f_flipped 151 := by
  refine FS.of (G := G) (f := Fx.mk "flipped" ?cs 151 (.ref 150) ["geo", "square", "rank"]) (n := 0) (fo := ?fo) (fname := ?p0) (params := ?p1) (body := ?p2) (doc := ?p3) (pm := ?p4) (ct := ?p5) (an := ?p6) ?ok (B.at ?hl) ?hd ?hcd ?hu ?hlen ?hcell ?hbind ?hb ?hco ?hgen
  case hl => exact rfl
  case hd => exact rfl
  case ok => exact ⟨rfl, by decide +kernel, by decide +kernel, by decide +kernel⟩
  case hcd => exact ⟨_, _, _, _, rfl, B.at (by rfl), rfl, rfl⟩
  case hu => rfl
  case hlen => decide
  case hcell => decide +kernel
  case hbind => intro us h; rcases us with _ | ⟨_, _ | ⟨_, _ | ⟨_, us⟩⟩⟩ <;> first | rfl | (exfalso; simp only [List.length_cons, List.length_nil] at h; omega)
  case hco => rfl
  case hgen => rfl
  case hb =>
    intro ok
    unfold b_flipped
    exact (bs_cons (ss_set ok rfl (es_bin (op_div _) (es_loc ok rfl) (es_attr rfl (es_loc ok rfl))))
     (bs_one (ss_ret (es_bin (op_add _) (es_bin (op_mul _) (es_bin (op_sub _) (es_bin (op_sub _) (es_attr rfl (es_loc ok rfl)) (es_int rfl)) (es_loc ok rfl)) (es_attr rfl (es_loc ok rfl))) (es_bin (op_mod _) (es_loc ok rfl) (es_attr rfl (es_loc ok rfl)))))))

theorem at_probe_kpk (B : Own G) : FnAt G "probe_kpk" 158 := ⟨B.glob (by kernel_rfl), _, _, B.at rfl, rfl⟩
theorem fs_probe_kpk (B : Own G) : FS G 3 f_probe_kpk 158 := by
  refine FS.of (G := G) (f := Fx.mk "probe_kpk" ?cs 158 (.ref 157) ["geo", "base", "side", "strong", "pawn", "weak", "square"]) (n := 2) (fo := ?fo) (fname := ?p0) (params := ?p1) (body := ?p2) (doc := ?p3) (pm := ?p4) (ct := ?p5) (an := ?p6) ?ok (B.at ?hl) ?hd ?hcd ?hu ?hlen ?hcell ?hbind ?hb ?hco ?hgen
  case hl => exact rfl
  case hd => exact rfl
  case ok => exact ⟨rfl, by decide +kernel, by decide +kernel, by decide +kernel⟩
  case hcd => exact ⟨_, _, _, _, rfl, B.at (by rfl), rfl, rfl⟩
  case hu => rfl
  case hlen => decide
  case hcell => decide +kernel
  case hbind => intro us h; rcases us with _ | ⟨_, _ | ⟨_, _ | ⟨_, _ | ⟨_, _ | ⟨_, _ | ⟨_, _ | ⟨_, us⟩⟩⟩⟩⟩⟩⟩ <;> first | rfl | (exfalso; simp only [List.length_cons, List.length_nil] at h; omega)
  case hco => rfl
  case hgen => rfl
  case hb =>
    intro ok
    unfold b_probe_kpk
    exact (bs_cons (ss_for (tgt_var ok rfl) (es_tup (ls_cons (es_loc ok rfl) (ls_cons (es_loc ok rfl) ls_nil)))
      (bs_one (ss_if (ts_not (ts_cmp2 (cm_le _) (cm_lt _) (es_int rfl) (es_loc ok rfl) (es_attr rfl (es_loc ok rfl))))
       (bs_one ss_raise)
       bs_nil)))
     (bs_cons (ss_if (ts_not (ts_cmp2 (cm_le _) (cm_lt _) (es_attr rfl (es_loc ok rfl)) (es_loc ok rfl) (es_bin (op_sub _) (es_attr rfl (es_loc ok rfl)) (es_attr rfl (es_loc ok rfl)))))
      (bs_one ss_raise)
      bs_nil)
     (bs_cons (ss_if (ts_cmp (cm_ge _) (es_bin (op_mod _) (es_loc ok rfl) (es_attr rfl (es_loc ok rfl))) (es_call ok (by kernel_rfl) (by kernel_rfl) (at_pawn_files B) ((fs_pawn_files B).more (by decide)) (ls_cons (es_loc ok rfl) ls_nil)))
      (bs_cons (ss_set ok rfl (es_call ok (by kernel_rfl) (by kernel_rfl) (at_mirrored B) ((fs_mirrored B).more (by decide)) (ls_cons (es_loc ok rfl) (ls_cons (es_loc ok rfl) ls_nil))))
      (bs_cons (ss_set ok rfl (es_call ok (by kernel_rfl) (by kernel_rfl) (at_mirrored B) ((fs_mirrored B).more (by decide)) (ls_cons (es_loc ok rfl) (ls_cons (es_loc ok rfl) ls_nil))))
      (bs_one (ss_set ok rfl (es_call ok (by kernel_rfl) (by kernel_rfl) (at_mirrored B) ((fs_mirrored B).more (by decide)) (ls_cons (es_loc ok rfl) (ls_cons (es_loc ok rfl) ls_nil)))))))
      bs_nil)
     (bs_one (ss_ret (es_sub (es_loc ok rfl) (es_call ok (by kernel_rfl) (by kernel_rfl) (at_kpk_index B) ((fs_kpk_index B).more (by decide)) (ls_cons (es_loc ok rfl) (ls_cons (es_loc ok rfl) (ls_cons (es_loc ok rfl) (ls_cons (es_loc ok rfl) (ls_cons (es_loc ok rfl) ls_nil))))))))))))

theorem at_probe_for (B : Own G) : FnAt G "probe_for" 165 := ⟨B.glob (by kernel_rfl), _, _, B.at rfl, rfl⟩
theorem fs_probe_for (B : Own G) : FS G 4 f_probe_for 165 := by
  refine FS.of (G := G) (f := Fx.mk "probe_for" ?cs 165 (.ref 164) ["geo", "base", "owner", "side", "strong", "pawn", "weak"]) (n := 3) (fo := ?fo) (fname := ?p0) (params := ?p1) (body := ?p2) (doc := ?p3) (pm := ?p4) (ct := ?p5) (an := ?p6) ?ok (B.at ?hl) ?hd ?hcd ?hu ?hlen ?hcell ?hbind ?hb ?hco ?hgen
  case hl => exact rfl
  case hd => exact rfl
  case ok => exact ⟨rfl, by decide +kernel, by decide +kernel, by decide +kernel⟩
  case hcd => exact ⟨_, _, _, _, rfl, B.at (by rfl), rfl, rfl⟩
  case hu => rfl
  case hlen => decide
  case hcell => decide +kernel
  case hbind => intro us h; rcases us with _ | ⟨_, _ | ⟨_, _ | ⟨_, _ | ⟨_, _ | ⟨_, _ | ⟨_, _ | ⟨_, _ | ⟨_, us⟩⟩⟩⟩⟩⟩⟩⟩ <;> first | rfl | (exfalso; simp only [List.length_cons, List.length_nil] at h; omega)
  case hco => rfl
  case hgen => rfl
  case hb =>
    intro ok
    unfold b_probe_for
    exact (bs_cons (ss_if (ts_cmp (cm_eq _) (es_loc ok rfl) (es_glob ok (by kernel_rfl) (mg_WHITE B) (vr_WHITE B) (by kernel_rfl)))
      (bs_one (ss_ret (es_call ok (by kernel_rfl) (by kernel_rfl) (at_probe_kpk B) ((fs_probe_kpk B).more (by decide)) (ls_cons (es_loc ok rfl) (ls_cons (es_loc ok rfl) (ls_cons (es_loc ok rfl) (ls_cons (es_loc ok rfl) (ls_cons (es_loc ok rfl) (ls_cons (es_loc ok rfl) ls_nil)))))))))
      bs_nil)
     (bs_one (ss_ret (es_call ok (by kernel_rfl) (by kernel_rfl) (at_probe_kpk B) ((fs_probe_kpk B).more (by decide)) (ls_cons (es_loc ok rfl) (ls_cons (es_loc ok rfl) (ls_cons (es_bin (op_sub _) (es_int rfl) (es_loc ok rfl)) (ls_cons (es_call ok (by kernel_rfl) (by kernel_rfl) (at_flipped B) ((fs_flipped B).more (by decide)) (ls_cons (es_loc ok rfl) (ls_cons (es_loc ok rfl) ls_nil))) (ls_cons (es_call ok (by kernel_rfl) (by kernel_rfl) (at_flipped B) ((fs_flipped B).more (by decide)) (ls_cons (es_loc ok rfl) (ls_cons (es_loc ok rfl) ls_nil))) (ls_cons (es_call ok (by kernel_rfl) (by kernel_rfl) (at_flipped B) ((fs_flipped B).more (by decide)) (ls_cons (es_loc ok rfl) (ls_cons (es_loc ok rfl) ls_nil))) ls_nil))))))))))

theorem fs_Geometry_init (B : Own G) : FS G 1 f_Geometry_init 181 := by
  refine FS.of (G := G) (f := Fx.mk "Geometry.__init__" ?cs 181 (.ref 180) ["self", "files", "ranks", "has_double", "has_castling"]) (n := 0) (fo := ?fo) (fname := ?p0) (params := ?p1) (body := ?p2) (doc := ?p3) (pm := ?p4) (ct := ?p5) (an := ?p6) ?ok (B.at ?hl) ?hd ?hcd ?hu ?hlen ?hcell ?hbind ?hb ?hco ?hgen
  case hl => exact rfl
  case hd => exact rfl
  case ok => exact ⟨rfl, by decide +kernel, by decide +kernel, by decide +kernel⟩
  case hcd => exact ⟨_, _, _, _, rfl, B.at (by rfl), rfl, rfl⟩
  case hu => rfl
  case hlen => decide
  case hcell => decide +kernel
  case hbind => intro us h; rcases us with _ | ⟨_, _ | ⟨_, _ | ⟨_, _ | ⟨_, _ | ⟨_, _ | ⟨_, us⟩⟩⟩⟩⟩⟩ <;> first | rfl | (exfalso; simp only [List.length_cons, List.length_nil] at h; omega)
  case hco => rfl
  case hgen => rfl
  case hb =>
    intro ok
    unfold b_Geometry_init
    exact (bs_cons (ss_sattr rfl (es_loc ok rfl) (es_loc ok rfl))
     (bs_cons (ss_sattr rfl (es_loc ok rfl) (es_loc ok rfl))
     (bs_cons (ss_sattr rfl (es_loc ok rfl) (es_bin (op_mul _) (es_loc ok rfl) (es_loc ok rfl)))
     (bs_cons (ss_sattr rfl (es_loc ok rfl) (es_bin (op_sub _) (es_bin (op_shl _) (es_int rfl) (es_bin (op_mul _) (es_loc ok rfl) (es_loc ok rfl))) (es_int rfl)))
     (bs_cons (ss_sattr rfl (es_loc ok rfl) (es_boolv (bv_and (es_loc ok rfl) (bv_one (es_cmp (cm_ge _) (es_loc ok rfl) (es_int rfl))))))
     (bs_cons (ss_sattr rfl (es_loc ok rfl) (es_loc ok rfl))
     (bs_cons (ss_sattr rfl (es_loc ok rfl) (es_list ls_nil))
     (bs_cons (ss_sattr rfl (es_loc ok rfl) (es_list ls_nil))
     (bs_cons (ss_sattr rfl (es_loc ok rfl) (es_list ls_nil))
     (bs_cons (ss_sattr rfl (es_loc ok rfl) (es_list ls_nil))
     (bs_cons (ss_sattr rfl (es_loc ok rfl) (es_list ls_nil))
     (bs_cons (ss_sattr rfl (es_loc ok rfl) (es_list (ls_cons (es_list ls_nil) (ls_cons (es_list ls_nil) ls_nil))))
     (bs_cons (ss_sattr rfl (es_loc ok rfl) (es_list ls_nil))
     (bs_one (ss_sattr rfl (es_loc ok rfl) (es_list ls_nil))))))))))))))))

theorem fs_Geometry_init' (B : Own G) : FS G 1 f_Geometry_init G.fI := by rw [B.fI]; exact fs_Geometry_init B
theorem at_is_growing (B : Own G) : FnAt G "is_growing" 195 := ⟨B.glob (by kernel_rfl), _, _, B.at rfl, rfl⟩
theorem fs_is_growing (B : Own G) : FS G 1 f_is_growing 195 := by
  refine FS.of (G := G) (f := Fx.mk "is_growing" ?cs 195 (.ref 194) ["d"]) (n := 0) (fo := ?fo) (fname := ?p0) (params := ?p1) (body := ?p2) (doc := ?p3) (pm := ?p4) (ct := ?p5) (an := ?p6) ?ok (B.at ?hl) ?hd ?hcd ?hu ?hlen ?hcell ?hbind ?hb ?hco ?hgen
  case hl => exact rfl
  case hd => exact rfl
  case ok => exact ⟨rfl, by decide +kernel, by decide +kernel, by decide +kernel⟩
  case hcd => exact ⟨_, _, _, _, rfl, B.at (by rfl), rfl, rfl⟩
  case hu => rfl
  case hlen => decide
  case hcell => decide +kernel
  case hbind => intro us h; rcases us with _ | ⟨_, _ | ⟨_, us⟩⟩ <;> first | rfl | (exfalso; simp only [List.length_cons, List.length_nil] at h; omega)
  case hco => rfl
  case hgen => rfl
  case hb =>
    intro ok
    unfold b_is_growing
    exact (bs_one (ss_ret (es_boolv (bv_or (es_cmp (cm_gt _) (es_sub (es_glob ok (by kernel_rfl) (mg_STEP_RANKS B) (vr_STEP_RANKS B) (by kernel_rfl)) (es_loc ok rfl)) (es_int rfl)) (bv_one (es_cmp (cm_eq _) (es_loc ok rfl) (es_int rfl)))))))

theorem at_add_masks (B : Own G) : FnAt G "add_masks" 202 := ⟨B.glob (by kernel_rfl), _, _, B.at rfl, rfl⟩
theorem fs_add_masks (B : Own G) : FS G 1 f_add_masks 202 := by
  refine FS.of (G := G) (f := Fx.mk "add_masks" ?cs 202 (.ref 201) ["geo", "row", "column", "r", "f"]) (n := 0) (fo := ?fo) (fname := ?p0) (params := ?p1) (body := ?p2) (doc := ?p3) (pm := ?p4) (ct := ?p5) (an := ?p6) ?ok (B.at ?hl) ?hd ?hcd ?hu ?hlen ?hcell ?hbind ?hb ?hco ?hgen
  case hl => exact rfl
  case hd => exact rfl
  case ok => exact ⟨rfl, by decide +kernel, by decide +kernel, by decide +kernel⟩
  case hcd => exact ⟨_, _, _, _, rfl, B.at (by rfl), rfl, rfl⟩
  case hu => rfl
  case hlen => decide
  case hcell => decide +kernel
  case hbind => intro us h; rcases us with _ | ⟨_, _ | ⟨_, us⟩⟩ <;> first | rfl | (exfalso; simp only [List.length_cons, List.length_nil] at h; omega)
  case hco => rfl
  case hgen => rfl
  case hb =>
    intro ok
    unfold b_add_masks
    exact (bs_cons (ss_set ok rfl (es_bin (op_sub _) (es_bin (op_shl _) (es_int rfl) (es_attr rfl (es_loc ok rfl))) (es_int rfl)))
     (bs_cons (ss_set ok rfl (es_int rfl))
     (bs_cons (ss_for (tgt_var ok rfl) (es_range1 ok (by kernel_rfl) (es_attr rfl (es_loc ok rfl)))
      (bs_cons (ss_expr (es_append (es_attr rfl (es_loc ok rfl)) (es_bin (op_shl _) (es_loc ok rfl) (es_bin (op_mul _) (es_loc ok rfl) (es_attr rfl (es_loc ok rfl)))) rfl) (by intro _; rfl))
      (bs_one (ss_aug ok rfl (iop_or _) (es_bin (op_shl _) (es_int rfl) (es_bin (op_mul _) (es_loc ok rfl) (es_attr rfl (es_loc ok rfl))))))))
     (bs_one (ss_for (tgt_var ok rfl) (es_range1 ok (by kernel_rfl) (es_attr rfl (es_loc ok rfl)))
      (bs_one (ss_expr (es_append (es_attr rfl (es_loc ok rfl)) (es_bin (op_shl _) (es_loc ok rfl) (es_loc ok rfl)) rfl) (by intro _; rfl))))))))

theorem at_inner_squares (B : Own G) : FnAt G "inner_squares" 209 := ⟨B.glob (by kernel_rfl), _, _, B.at rfl, rfl⟩
theorem fs_inner_squares (B : Own G) : FS G 1 f_inner_squares 209 := by
  refine FS.of (G := G) (f := Fx.mk "inner_squares" ?cs 209 (.ref 208) ["geo", "d", "edge"]) (n := 0) (fo := ?fo) (fname := ?p0) (params := ?p1) (body := ?p2) (doc := ?p3) (pm := ?p4) (ct := ?p5) (an := ?p6) ?ok (B.at ?hl) ?hd ?hcd ?hu ?hlen ?hcell ?hbind ?hb ?hco ?hgen
  case hl => exact rfl
  case hd => exact rfl
  case ok => exact ⟨rfl, by decide +kernel, by decide +kernel, by decide +kernel⟩
  case hcd => exact ⟨_, _, _, _, rfl, B.at (by rfl), rfl, rfl⟩
  case hu => rfl
  case hlen => decide
  case hcell => decide +kernel
  case hbind => intro us h; rcases us with _ | ⟨_, _ | ⟨_, _ | ⟨_, us⟩⟩⟩ <;> first | rfl | (exfalso; simp only [List.length_cons, List.length_nil] at h; omega)
  case hco => rfl
  case hgen => rfl
  case hb =>
    intro ok
    unfold b_inner_squares
    exact (bs_cons (ss_set ok rfl (es_int rfl))
     (bs_cons (ss_if (ts_cmp (cm_gt _) (es_sub (es_glob ok (by kernel_rfl) (mg_STEP_FILES B) (vr_STEP_FILES B) (by kernel_rfl)) (es_loc ok rfl)) (es_int rfl))
      (bs_one (ss_aug ok rfl (iop_or _) (es_sub (es_attr rfl (es_loc ok rfl)) (es_bin (op_sub _) (es_attr rfl (es_loc ok rfl)) (es_int rfl)))))
      bs_nil)
     (bs_cons (ss_if (ts_cmp (cm_lt _) (es_sub (es_glob ok (by kernel_rfl) (mg_STEP_FILES B) (vr_STEP_FILES B) (by kernel_rfl)) (es_loc ok rfl)) (es_int rfl))
      (bs_one (ss_aug ok rfl (iop_or _) (es_sub (es_attr rfl (es_loc ok rfl)) (es_int rfl))))
      bs_nil)
     (bs_cons (ss_if (ts_cmp (cm_gt _) (es_sub (es_glob ok (by kernel_rfl) (mg_STEP_RANKS B) (vr_STEP_RANKS B) (by kernel_rfl)) (es_loc ok rfl)) (es_int rfl))
      (bs_one (ss_aug ok rfl (iop_or _) (es_sub (es_attr rfl (es_loc ok rfl)) (es_bin (op_sub _) (es_attr rfl (es_loc ok rfl)) (es_int rfl)))))
      bs_nil)
     (bs_cons (ss_if (ts_cmp (cm_lt _) (es_sub (es_glob ok (by kernel_rfl) (mg_STEP_RANKS B) (vr_STEP_RANKS B) (by kernel_rfl)) (es_loc ok rfl)) (es_int rfl))
      (bs_one (ss_aug ok rfl (iop_or _) (es_sub (es_attr rfl (es_loc ok rfl)) (es_int rfl))))
      bs_nil)
     (bs_one (ss_ret (es_bin (op_and _) (es_attr rfl (es_loc ok rfl)) (es_inv (es_loc ok rfl))))))))))

theorem at_add_rays (B : Own G) : FnAt G "add_rays" 216 := ⟨B.glob (by kernel_rfl), _, _, B.at rfl, rfl⟩
theorem fs_add_rays (B : Own G) : FS G 2 f_add_rays 216 := by
  refine FS.of (G := G) (f := Fx.mk "add_rays" ?cs 216 (.ref 215) ["geo", "d", "inner", "delta", "ray", "order", "square", "goal"]) (n := 1) (fo := ?fo) (fname := ?p0) (params := ?p1) (body := ?p2) (doc := ?p3) (pm := ?p4) (ct := ?p5) (an := ?p6) ?ok (B.at ?hl) ?hd ?hcd ?hu ?hlen ?hcell ?hbind ?hb ?hco ?hgen
  case hl => exact rfl
  case hd => exact rfl
  case ok => exact ⟨rfl, by decide +kernel, by decide +kernel, by decide +kernel⟩
  case hcd => exact ⟨_, _, _, _, rfl, B.at (by rfl), rfl, rfl⟩
  case hu => rfl
  case hlen => decide
  case hcell => decide +kernel
  case hbind => intro us h; rcases us with _ | ⟨_, _ | ⟨_, us⟩⟩ <;> first | rfl | (exfalso; simp only [List.length_cons, List.length_nil] at h; omega)
  case hco => rfl
  case hgen => rfl
  case hb =>
    intro ok
    unfold b_add_rays
    exact (bs_cons (ss_sattr rfl (es_loc ok rfl) (es_rep (es_int rfl) (es_attr rfl (es_loc ok rfl))))
     (bs_one (ss_for (tgt_var ok rfl) (es_range1 ok (by kernel_rfl) (es_int rfl))
      (bs_cons (ss_set ok rfl (es_call ok (by kernel_rfl) (by kernel_rfl) (at_inner_squares B) ((fs_inner_squares B).more (by decide)) (ls_cons (es_loc ok rfl) (ls_cons (es_loc ok rfl) ls_nil))))
      (bs_cons (ss_set ok rfl (es_bin (op_add _) (es_bin (op_mul _) (es_sub (es_glob ok (by kernel_rfl) (mg_STEP_RANKS B) (vr_STEP_RANKS B) (by kernel_rfl)) (es_loc ok rfl)) (es_attr rfl (es_loc ok rfl))) (es_sub (es_glob ok (by kernel_rfl) (mg_STEP_FILES B) (vr_STEP_FILES B) (by kernel_rfl)) (es_loc ok rfl))))
      (bs_cons (ss_set ok rfl (es_rep (es_int rfl) (es_attr rfl (es_loc ok rfl))))
      (bs_cons (ss_set ok rfl (es_range1 ok (by kernel_rfl) (es_attr rfl (es_loc ok rfl))))
      (bs_cons (ss_if (TS.of (es_call ok (by kernel_rfl) (by kernel_rfl) (at_is_growing B) ((fs_is_growing B).more (by decide)) (ls_cons (es_loc ok rfl) ls_nil)))
       (bs_one (ss_set ok rfl (es_range3 ok (by kernel_rfl) (es_bin (op_sub _) (es_attr rfl (es_loc ok rfl)) (es_int rfl)) (es_neg (es_int rfl)) (es_neg (es_int rfl)))))
       bs_nil)
      (bs_cons (ss_for (tgt_var ok rfl) (es_loc ok rfl)
       (bs_one (ss_if (TS.of (es_bin (op_and _) (es_bin (op_shr _) (es_loc ok rfl) (es_loc ok rfl)) (es_int rfl)))
        (bs_cons (ss_set ok rfl (es_bin (op_add _) (es_loc ok rfl) (es_loc ok rfl)))
        (bs_cons (ss_ssub (es_loc ok rfl) (es_loc ok rfl) (es_bin (op_or _) (es_sub (es_loc ok rfl) (es_loc ok rfl)) (es_bin (op_shl _) (es_int rfl) (es_loc ok rfl))))
        (bs_one (ss_saugsub (iop_or _) (es_attr rfl (es_loc ok rfl)) (es_loc ok rfl) (es_bin (op_shl _) (es_int rfl) (es_loc ok rfl))))))
        bs_nil)))
      (bs_one (ss_expr (es_append (es_attr rfl (es_loc ok rfl)) (es_loc ok rfl) rfl) (by intro _; rfl))))))))))))

theorem at_add_pawns (B : Own G) : FnAt G "add_pawns" 223 := ⟨B.glob (by kernel_rfl), _, _, B.at rfl, rfl⟩
theorem fs_add_pawns (B : Own G) : FS G 1 f_add_pawns 223 := by
  refine FS.of (G := G) (f := Fx.mk "add_pawns" ?cs 223 (.ref 222) ["geo", "square"]) (n := 0) (fo := ?fo) (fname := ?p0) (params := ?p1) (body := ?p2) (doc := ?p3) (pm := ?p4) (ct := ?p5) (an := ?p6) ?ok (B.at ?hl) ?hd ?hcd ?hu ?hlen ?hcell ?hbind ?hb ?hco ?hgen
  case hl => exact rfl
  case hd => exact rfl
  case ok => exact ⟨rfl, by decide +kernel, by decide +kernel, by decide +kernel⟩
  case hcd => exact ⟨_, _, _, _, rfl, B.at (by rfl), rfl, rfl⟩
  case hu => rfl
  case hlen => decide
  case hcell => decide +kernel
  case hbind => intro us h; rcases us with _ | ⟨_, _ | ⟨_, us⟩⟩ <;> first | rfl | (exfalso; simp only [List.length_cons, List.length_nil] at h; omega)
  case hco => rfl
  case hgen => rfl
  case hb =>
    intro ok
    unfold b_add_pawns
    exact (bs_one (ss_for (tgt_var ok rfl) (es_range1 ok (by kernel_rfl) (es_attr rfl (es_loc ok rfl)))
      (bs_cons (ss_expr (es_append (es_sub (es_attr rfl (es_loc ok rfl)) (es_int rfl)) (es_bin (op_and _) (es_sub (es_attr rfl (es_loc ok rfl)) (es_loc ok rfl)) (es_bin (op_or _) (es_sub (es_sub (es_attr rfl (es_loc ok rfl)) (es_int rfl)) (es_loc ok rfl)) (es_sub (es_sub (es_attr rfl (es_loc ok rfl)) (es_int rfl)) (es_loc ok rfl)))) rfl) (by intro _; rfl))
      (bs_one (ss_expr (es_append (es_sub (es_attr rfl (es_loc ok rfl)) (es_int rfl)) (es_bin (op_and _) (es_sub (es_attr rfl (es_loc ok rfl)) (es_loc ok rfl)) (es_bin (op_or _) (es_sub (es_sub (es_attr rfl (es_loc ok rfl)) (es_int rfl)) (es_loc ok rfl)) (es_sub (es_sub (es_attr rfl (es_loc ok rfl)) (es_int rfl)) (es_loc ok rfl)))) rfl) (by intro _; rfl))))))

theorem at_add_knights (B : Own G) : FnAt G "add_knights" 230 := ⟨B.glob (by kernel_rfl), _, _, B.at rfl, rfl⟩
theorem fs_add_knights (B : Own G) : FS G 1 f_add_knights 230 := by
  refine FS.of (G := G) (f := Fx.mk "add_knights" ?cs 230 (.ref 229) ["geo", "files", "not_first", "not_last", "not_first_two", "not_last_two", "square", "b", "near", "far", "found"]) (n := 0) (fo := ?fo) (fname := ?p0) (params := ?p1) (body := ?p2) (doc := ?p3) (pm := ?p4) (ct := ?p5) (an := ?p6) ?ok (B.at ?hl) ?hd ?hcd ?hu ?hlen ?hcell ?hbind ?hb ?hco ?hgen
  case hl => exact rfl
  case hd => exact rfl
  case ok => exact ⟨rfl, by decide +kernel, by decide +kernel, by decide +kernel⟩
  case hcd => exact ⟨_, _, _, _, rfl, B.at (by rfl), rfl, rfl⟩
  case hu => rfl
  case hlen => decide
  case hcell => decide +kernel
  case hbind => intro us h; rcases us with _ | ⟨_, _ | ⟨_, us⟩⟩ <;> first | rfl | (exfalso; simp only [List.length_cons, List.length_nil] at h; omega)
  case hco => rfl
  case hgen => rfl
  case hb =>
    intro ok
    unfold b_add_knights
    exact (bs_cons (ss_set ok rfl (es_attr rfl (es_loc ok rfl)))
     (bs_cons (ss_set ok rfl (es_bin (op_and _) (es_attr rfl (es_loc ok rfl)) (es_inv (es_sub (es_attr rfl (es_loc ok rfl)) (es_int rfl)))))
     (bs_cons (ss_set ok rfl (es_bin (op_and _) (es_attr rfl (es_loc ok rfl)) (es_inv (es_sub (es_attr rfl (es_loc ok rfl)) (es_bin (op_sub _) (es_loc ok rfl) (es_int rfl))))))
     (bs_cons (ss_set ok rfl (es_bin (op_and _) (es_loc ok rfl) (es_inv (es_sub (es_attr rfl (es_loc ok rfl)) (es_int rfl)))))
     (bs_cons (ss_set ok rfl (es_bin (op_and _) (es_loc ok rfl) (es_inv (es_sub (es_attr rfl (es_loc ok rfl)) (es_bin (op_sub _) (es_loc ok rfl) (es_int rfl))))))
     (bs_one (ss_for (tgt_var ok rfl) (es_range1 ok (by kernel_rfl) (es_attr rfl (es_loc ok rfl)))
      (bs_cons (ss_set ok rfl (es_bin (op_shl _) (es_int rfl) (es_loc ok rfl)))
      (bs_cons (ss_set ok rfl (es_bin (op_or _) (es_bin (op_and _) (es_bin (op_shl _) (es_loc ok rfl) (es_int rfl)) (es_loc ok rfl)) (es_bin (op_and _) (es_bin (op_shr _) (es_loc ok rfl) (es_int rfl)) (es_loc ok rfl))))
      (bs_cons (ss_set ok rfl (es_bin (op_or _) (es_bin (op_and _) (es_bin (op_shl _) (es_loc ok rfl) (es_int rfl)) (es_loc ok rfl)) (es_bin (op_and _) (es_bin (op_shr _) (es_loc ok rfl) (es_int rfl)) (es_loc ok rfl))))
      (bs_cons (ss_set ok rfl (es_bin (op_or _) (es_bin (op_or _) (es_bin (op_or _) (es_bin (op_shl _) (es_loc ok rfl) (es_bin (op_mul _) (es_int rfl) (es_loc ok rfl))) (es_bin (op_shr _) (es_loc ok rfl) (es_bin (op_mul _) (es_int rfl) (es_loc ok rfl)))) (es_bin (op_shl _) (es_loc ok rfl) (es_loc ok rfl))) (es_bin (op_shr _) (es_loc ok rfl) (es_loc ok rfl))))
      (bs_one (ss_expr (es_append (es_attr rfl (es_loc ok rfl)) (es_bin (op_and _) (es_loc ok rfl) (es_attr rfl (es_loc ok rfl))) rfl) (by intro _; rfl))))))))))))))

theorem at_add_castles (B : Own G) : FnAt G "add_castles" 237 := ⟨B.glob (by kernel_rfl), _, _, B.at rfl, rfl⟩
theorem fs_add_castles (B : Own G) : FS G 1 f_add_castles 237 := by
  refine FS.of (G := G) (f := Fx.mk "add_castles" ?cs 237 (.ref 236) ["geo", "start", "index", "base", "corner", "way", "goal"]) (n := 0) (fo := ?fo) (fname := ?p0) (params := ?p1) (body := ?p2) (doc := ?p3) (pm := ?p4) (ct := ?p5) (an := ?p6) ?ok (B.at ?hl) ?hd ?hcd ?hu ?hlen ?hcell ?hbind ?hb ?hco ?hgen
  case hl => exact rfl
  case hd => exact rfl
  case ok => exact ⟨rfl, by decide +kernel, by decide +kernel, by decide +kernel⟩
  case hcd => exact ⟨_, _, _, _, rfl, B.at (by rfl), rfl, rfl⟩
  case hu => rfl
  case hlen => decide
  case hcell => decide +kernel
  case hbind => intro us h; rcases us with _ | ⟨_, _ | ⟨_, us⟩⟩ <;> first | rfl | (exfalso; simp only [List.length_cons, List.length_nil] at h; omega)
  case hco => rfl
  case hgen => rfl
  case hb =>
    intro ok
    unfold b_add_castles
    exact (bs_cons (ss_sattr rfl (es_loc ok rfl) (es_rep (es_int rfl) (es_attr rfl (es_loc ok rfl))))
     (bs_cons (ss_set ok rfl (es_bin (op_div _) (es_attr rfl (es_loc ok rfl)) (es_int rfl)))
     (bs_one (ss_for (tgt_var ok rfl) (es_range1 ok (by kernel_rfl) (es_int rfl))
      (bs_cons (ss_set ok rfl (es_bin (op_mul _) (es_bin (op_mul _) (es_bin (op_shr _) (es_loc ok rfl) (es_int rfl)) (es_bin (op_sub _) (es_attr rfl (es_loc ok rfl)) (es_int rfl))) (es_attr rfl (es_loc ok rfl))))
      (bs_cons (ss_set ok rfl (es_bin (op_sub _) (es_attr rfl (es_loc ok rfl)) (es_int rfl)))
      (bs_cons (ss_set ok rfl (es_int rfl))
      (bs_cons (ss_if (TS.of (es_bin (op_and _) (es_loc ok rfl) (es_int rfl)))
       (bs_cons (ss_set ok rfl (es_int rfl))
       (bs_one (ss_set ok rfl (es_neg (es_int rfl)))))
       bs_nil)
      (bs_cons (ss_set ok rfl (es_bin (op_add _) (es_loc ok rfl) (es_bin (op_mul _) (es_int rfl) (es_loc ok rfl))))
      (bs_one (ss_if (ts_bool (at_and (TS.of (es_attr rfl (es_loc ok rfl))) (at_one (ts_cmp (cm_gt _) (es_bin (op_mul _) (es_bin (op_sub _) (es_loc ok rfl) (es_loc ok rfl)) (es_loc ok rfl)) (es_int rfl)))))
       (bs_cons (ss_expr (es_append (es_attr rfl (es_loc ok rfl)) (es_tup (ls_cons (es_bin (op_add _) (es_loc ok rfl) (es_loc ok rfl)) (ls_cons (es_bin (op_add _) (es_loc ok rfl) (es_loc ok rfl)) (ls_cons (es_bin (op_add _) (es_loc ok rfl) (es_loc ok rfl)) (ls_cons (es_bin (op_sub _) (es_bin (op_add _) (es_loc ok rfl) (es_loc ok rfl)) (es_loc ok rfl)) ls_nil))))) rfl) (by intro _; rfl))
       (bs_cons (ss_saugsub (iop_or _) (es_attr rfl (es_loc ok rfl)) (es_bin (op_add _) (es_loc ok rfl) (es_loc ok rfl)) (es_bin (op_shl _) (es_int rfl) (es_loc ok rfl)))
       (bs_one (ss_saugsub (iop_or _) (es_attr rfl (es_loc ok rfl)) (es_bin (op_add _) (es_loc ok rfl) (es_loc ok rfl)) (es_bin (op_shl _) (es_int rfl) (es_loc ok rfl))))))
       (bs_one (ss_expr (es_append (es_attr rfl (es_loc ok rfl)) es_none rfl) (by intro _; rfl))))))))))))))

theorem at_make_geometry (B : Own G) : FnAt G "make_geometry" 244 := ⟨B.glob (by kernel_rfl), _, _, B.at rfl, rfl⟩
theorem fs_make_geometry (B : Own G) : FS G 4 f_make_geometry 244 := by
  refine FS.of (G := G) (f := Fx.mk "make_geometry" ?cs 244 (.ref 243) ["files", "ranks", "has_double", "has_castling", "geo"]) (n := 3) (fo := ?fo) (fname := ?p0) (params := ?p1) (body := ?p2) (doc := ?p3) (pm := ?p4) (ct := ?p5) (an := ?p6) ?ok (B.at ?hl) ?hd ?hcd ?hu ?hlen ?hcell ?hbind ?hb ?hco ?hgen
  case hl => exact rfl
  case hd => exact rfl
  case ok => exact ⟨rfl, by decide +kernel, by decide +kernel, by decide +kernel⟩
  case hcd => exact ⟨_, _, _, _, rfl, B.at (by rfl), rfl, rfl⟩
  case hu => rfl
  case hlen => decide
  case hcell => decide +kernel
  case hbind => intro us h; rcases us with _ | ⟨_, _ | ⟨_, _ | ⟨_, _ | ⟨_, _ | ⟨_, us⟩⟩⟩⟩⟩ <;> first | rfl | (exfalso; simp only [List.length_cons, List.length_nil] at h; omega)
  case hco => rfl
  case hgen => rfl
  case hb =>
    intro ok
    unfold b_make_geometry
    exact (bs_cons (ss_if (ts_bool (at_or (ts_cmp (cm_lt _) (es_loc ok rfl) (es_int rfl)) (at_or (ts_cmp (cm_gt _) (es_loc ok rfl) (es_int rfl)) (at_or (ts_cmp (cm_lt _) (es_loc ok rfl) (es_int rfl)) (at_one (ts_cmp (cm_gt _) (es_loc ok rfl) (es_int rfl)))))))
      (bs_one ss_raise)
      bs_nil)
     (bs_cons (ss_set ok rfl (es_new ok (by kernel_rfl) (by kernel_rfl) (mg_Geometry B) (keep_Geometry B) ((fs_Geometry_init' B).more (by decide)) (ls_cons (es_loc ok rfl) (ls_cons (es_loc ok rfl) (ls_cons (es_loc ok rfl) (ls_cons (es_loc ok rfl) ls_nil))))))
     (bs_cons (ss_expr (es_call ok (by kernel_rfl) (by kernel_rfl) (at_add_masks B) ((fs_add_masks B).more (by decide)) (ls_cons (es_loc ok rfl) ls_nil)) (by intro _; rfl))
     (bs_cons (ss_expr (es_call ok (by kernel_rfl) (by kernel_rfl) (at_add_rays B) ((fs_add_rays B).more (by decide)) (ls_cons (es_loc ok rfl) ls_nil)) (by intro _; rfl))
     (bs_cons (ss_expr (es_call ok (by kernel_rfl) (by kernel_rfl) (at_add_pawns B) ((fs_add_pawns B).more (by decide)) (ls_cons (es_loc ok rfl) ls_nil)) (by intro _; rfl))
     (bs_cons (ss_expr (es_call ok (by kernel_rfl) (by kernel_rfl) (at_add_knights B) ((fs_add_knights B).more (by decide)) (ls_cons (es_loc ok rfl) ls_nil)) (by intro _; rfl))
     (bs_cons (ss_expr (es_call ok (by kernel_rfl) (by kernel_rfl) (at_add_castles B) ((fs_add_castles B).more (by decide)) (ls_cons (es_loc ok rfl) ls_nil)) (by intro _; rfl))
     (bs_one (ss_ret (es_loc ok rfl))))))))))

theorem at__law_near (B : Own G) : FnAt G "_law_near" 251 := ⟨B.glob (by kernel_rfl), _, _, B.at rfl, rfl⟩
theorem fs__law_near (B : Own G) : FS G 1 f__law_near 251 := by
  refine FS.of (G := G) (f := Fx.mk "_law_near" ?cs 251 (.ref 250) ["files", "size", "out", "a", "row", "b", "aside", "along"]) (n := 0) (fo := ?fo) (fname := ?p0) (params := ?p1) (body := ?p2) (doc := ?p3) (pm := ?p4) (ct := ?p5) (an := ?p6) ?ok (B.at ?hl) ?hd ?hcd ?hu ?hlen ?hcell ?hbind ?hb ?hco ?hgen
  case hl => exact rfl
  case hd => exact rfl
  case ok => exact ⟨rfl, by decide +kernel, by decide +kernel, by decide +kernel⟩
  case hcd => exact ⟨_, _, _, _, rfl, B.at (by rfl), rfl, rfl⟩
  case hu => rfl
  case hlen => decide
  case hcell => decide +kernel
  case hbind => intro us h; rcases us with _ | ⟨_, _ | ⟨_, _ | ⟨_, us⟩⟩⟩ <;> first | rfl | (exfalso; simp only [List.length_cons, List.length_nil] at h; omega)
  case hco => rfl
  case hgen => rfl
  case hb =>
    intro ok
    unfold b__law_near
    exact (bs_cons (ss_set ok rfl (es_list ls_nil))
     (bs_cons (ss_for (tgt_var ok rfl) (es_range1 ok (by kernel_rfl) (es_loc ok rfl))
      (bs_cons (ss_set ok rfl (es_list ls_nil))
      (bs_cons (ss_for (tgt_var ok rfl) (es_range1 ok (by kernel_rfl) (es_loc ok rfl))
       (bs_cons (ss_set ok rfl (es_abs ok (by kernel_rfl) (es_bin (op_sub _) (es_bin (op_mod _) (es_loc ok rfl) (es_loc ok rfl)) (es_bin (op_mod _) (es_loc ok rfl) (es_loc ok rfl)))))
       (bs_cons (ss_set ok rfl (es_abs ok (by kernel_rfl) (es_bin (op_sub _) (es_bin (op_div _) (es_loc ok rfl) (es_loc ok rfl)) (es_bin (op_div _) (es_loc ok rfl) (es_loc ok rfl)))))
       (bs_one (ss_if (ts_bool (at_and (ts_cmp (cm_ne _) (es_loc ok rfl) (es_loc ok rfl)) (at_and (ts_cmp (cm_le _) (es_loc ok rfl) (es_int rfl)) (at_one (ts_cmp (cm_le _) (es_loc ok rfl) (es_int rfl))))))
        (bs_one (ss_expr (es_append (es_loc ok rfl) (es_loc ok rfl) rfl) (by intro _; rfl)))
        bs_nil)))))
      (bs_one (ss_expr (es_append (es_loc ok rfl) (es_loc ok rfl) rfl) (by intro _; rfl))))))
     (bs_one (ss_ret (es_loc ok rfl)))))

theorem at__law_after (B : Own G) : FnAt G "_law_after" 258 := ⟨B.glob (by kernel_rfl), _, _, B.at rfl, rfl⟩
theorem fs__law_after (B : Own G) : FS G 1 f__law_after 258 := by
  refine FS.of (G := G) (f := Fx.mk "_law_after" ?cs 258 (.ref 257) ["files", "ranks", "double", "near", "side", "strong", "pawn", "weak", "file", "rank", "held", "out", "ahead", "goal"]) (n := 0) (fo := ?fo) (fname := ?p0) (params := ?p1) (body := ?p2) (doc := ?p3) (pm := ?p4) (ct := ?p5) (an := ?p6) ?ok (B.at ?hl) ?hd ?hcd ?hu ?hlen ?hcell ?hbind ?hb ?hco ?hgen
  case hl => exact rfl
  case hd => exact rfl
  case ok => exact ⟨rfl, by decide +kernel, by decide +kernel, by decide +kernel⟩
  case hcd => exact ⟨_, _, _, _, rfl, B.at (by rfl), rfl, rfl⟩
  case hu => rfl
  case hlen => decide
  case hcell => decide +kernel
  case hbind => intro us h; rcases us with _ | ⟨_, _ | ⟨_, _ | ⟨_, _ | ⟨_, _ | ⟨_, _ | ⟨_, _ | ⟨_, _ | ⟨_, _ | ⟨_, us⟩⟩⟩⟩⟩⟩⟩⟩⟩ <;> first | rfl | (exfalso; simp only [List.length_cons, List.length_nil] at h; omega)
  case hco => rfl
  case hgen => rfl
  case hb =>
    intro ok
    unfold b__law_after
    exact (bs_cons (ss_if (ts_bool (at_or (ts_cmp (cm_eq _) (es_loc ok rfl) (es_loc ok rfl)) (at_or (ts_cmp (cm_eq _) (es_loc ok rfl) (es_loc ok rfl)) (at_or (ts_cmp (cm_eq _) (es_loc ok rfl) (es_loc ok rfl)) (at_one (ts_in (es_loc ok rfl) (es_sub (es_loc ok rfl) (es_loc ok rfl))))))))
      (bs_one (ss_ret (es_tup (ls_cons (es_int rfl) (ls_cons (es_list ls_nil) ls_nil)))))
      bs_nil)
     (bs_cons (ss_set ok rfl (es_bin (op_mod _) (es_loc ok rfl) (es_loc ok rfl)))
     (bs_cons (ss_set ok rfl (es_bin (op_div _) (es_loc ok rfl) (es_loc ok rfl)))
     (bs_cons (ss_set ok rfl (es_list ls_nil))
     (bs_cons (ss_if (ts_cmp (cm_gt _) (es_loc ok rfl) (es_int rfl))
      (bs_one (ss_expr (es_append (es_loc ok rfl) (es_bin (op_sub _) (es_bin (op_add _) (es_loc ok rfl) (es_loc ok rfl)) (es_int rfl)) rfl) (by intro _; rfl)))
      bs_nil)
     (bs_cons (ss_if (ts_cmp (cm_lt _) (es_loc ok rfl) (es_bin (op_sub _) (es_loc ok rfl) (es_int rfl)))
      (bs_one (ss_expr (es_append (es_loc ok rfl) (es_bin (op_add _) (es_bin (op_add _) (es_loc ok rfl) (es_loc ok rfl)) (es_int rfl)) rfl) (by intro _; rfl)))
      bs_nil)
     (bs_cons (ss_set ok rfl (es_list ls_nil))
     (bs_cons (ss_if (ts_cmp (cm_eq _) (es_loc ok rfl) (es_int rfl))
      (bs_cons (ss_if (ts_in (es_loc ok rfl) (es_loc ok rfl))
       (bs_one (ss_ret (es_tup (ls_cons (es_int rfl) (ls_cons (es_list ls_nil) ls_nil)))))
       bs_nil)
      (bs_cons (ss_set ok rfl (es_bin (op_add _) (es_loc ok rfl) (es_loc ok rfl)))
      (bs_cons (ss_if (ts_bool (at_and (ts_cmp (cm_ne _) (es_loc ok rfl) (es_loc ok rfl)) (at_one (ts_cmp (cm_ne _) (es_loc ok rfl) (es_loc ok rfl)))))
       (bs_one (ss_if (ts_cmp (cm_eq _) (es_loc ok rfl) (es_bin (op_sub _) (es_loc ok rfl) (es_int rfl)))
        (bs_one (ss_if (ts_bool (at_or (ts_notin (es_loc ok rfl) (es_sub (es_loc ok rfl) (es_loc ok rfl))) (at_one (ts_in (es_loc ok rfl) (es_sub (es_loc ok rfl) (es_loc ok rfl))))))
         (bs_one (ss_ret (es_tup (ls_cons (es_int rfl) (ls_cons (es_list ls_nil) ls_nil)))))
         bs_nil))
        (bs_cons (ss_expr (es_append (es_loc ok rfl) (es_tup (ls_cons (es_int rfl) (ls_cons (es_loc ok rfl) (ls_cons (es_loc ok rfl) (ls_cons (es_loc ok rfl) ls_nil))))) rfl) (by intro _; rfl))
        (bs_one (ss_if (ts_bool (at_and (TS.of (es_loc ok rfl)) (at_and (ts_cmp (cm_eq _) (es_loc ok rfl) (es_int rfl)) (at_and (ts_cmp (cm_ne _) (es_bin (op_add _) (es_loc ok rfl) (es_loc ok rfl)) (es_loc ok rfl)) (at_one (ts_cmp (cm_ne _) (es_bin (op_add _) (es_loc ok rfl) (es_loc ok rfl)) (es_loc ok rfl)))))))
         (bs_one (ss_expr (es_append (es_loc ok rfl) (es_tup (ls_cons (es_int rfl) (ls_cons (es_loc ok rfl) (ls_cons (es_bin (op_add _) (es_loc ok rfl) (es_loc ok rfl)) (ls_cons (es_loc ok rfl) ls_nil))))) rfl) (by intro _; rfl)))
         bs_nil)))))
       bs_nil)
      (bs_cons (ss_for (tgt_var ok rfl) (es_sub (es_loc ok rfl) (es_loc ok rfl))
       (bs_one (ss_if (ts_bool (at_and (ts_cmp (cm_ne _) (es_loc ok rfl) (es_loc ok rfl)) (at_one (ts_notin (es_loc ok rfl) (es_sub (es_loc ok rfl) (es_loc ok rfl))))))
        (bs_one (ss_expr (es_append (es_loc ok rfl) (es_tup (ls_cons (es_int rfl) (ls_cons (es_loc ok rfl) (ls_cons (es_loc ok rfl) (ls_cons (es_loc ok rfl) ls_nil))))) rfl) (by intro _; rfl)))
        bs_nil)))
      (bs_one (ss_ret (es_tup (ls_cons (es_int rfl) (ls_cons (es_loc ok rfl) ls_nil)))))))))
      bs_nil)
     (bs_cons (ss_for (tgt_var ok rfl) (es_sub (es_loc ok rfl) (es_loc ok rfl))
      (bs_one (ss_if (ts_bool (at_and (ts_notin (es_loc ok rfl) (es_sub (es_loc ok rfl) (es_loc ok rfl))) (at_one (ts_notin (es_loc ok rfl) (es_loc ok rfl)))))
       (bs_cons (ss_if (ts_cmp (cm_eq _) (es_loc ok rfl) (es_loc ok rfl))
        (bs_one (ss_ret (es_tup (ls_cons (es_int rfl) (ls_cons (es_list ls_nil) ls_nil)))))
        bs_nil)
       (bs_one (ss_expr (es_append (es_loc ok rfl) (es_tup (ls_cons (es_int rfl) (ls_cons (es_loc ok rfl) (ls_cons (es_loc ok rfl) (ls_cons (es_loc ok rfl) ls_nil))))) rfl) (by intro _; rfl))))
       bs_nil)))
     (bs_cons (ss_if (ts_isNil (es_loc ok rfl))
      (bs_one (ss_ret (es_tup (ls_cons (es_int rfl) (ls_cons (es_list ls_nil) ls_nil)))))
      bs_nil)
     (bs_one (ss_ret (es_tup (ls_cons (es_int rfl) (ls_cons (es_loc ok rfl) ls_nil)))))))))))))))

theorem at__law_is_won (B : Own G) : FnAt G "_law_is_won" 265 := ⟨B.glob (by kernel_rfl), _, _, B.at rfl, rfl⟩
theorem fs__law_is_won (B : Own G) : FS G 1 f__law_is_won 265 := by
  refine FS.of (G := G) (f := Fx.mk "_law_is_won" ?cs 265 (.ref 264) ["side", "known", "count"]) (n := 0) (fo := ?fo) (fname := ?p0) (params := ?p1) (body := ?p2) (doc := ?p3) (pm := ?p4) (ct := ?p5) (an := ?p6) ?ok (B.at ?hl) ?hd ?hcd ?hu ?hlen ?hcell ?hbind ?hb ?hco ?hgen
  case hl => exact rfl
  case hd => exact rfl
  case ok => exact ⟨rfl, by decide +kernel, by decide +kernel, by decide +kernel⟩
  case hcd => exact ⟨_, _, _, _, rfl, B.at (by rfl), rfl, rfl⟩
  case hu => rfl
  case hlen => decide
  case hcell => decide +kernel
  case hbind => intro us h; rcases us with _ | ⟨_, _ | ⟨_, _ | ⟨_, _ | ⟨_, us⟩⟩⟩⟩ <;> first | rfl | (exfalso; simp only [List.length_cons, List.length_nil] at h; omega)
  case hco => rfl
  case hgen => rfl
  case hb =>
    intro ok
    unfold b__law_is_won
    exact (bs_cons (ss_if (ts_cmp (cm_eq _) (es_loc ok rfl) (es_int rfl))
      (bs_one (ss_ret (es_cmp (cm_gt _) (es_loc ok rfl) (es_int rfl))))
      bs_nil)
     (bs_one (ss_ret (es_cmp (cm_eq _) (es_loc ok rfl) (es_loc ok rfl)))))

theorem at__law_solve (B : Own G) : FnAt G "_law_solve" 272 := ⟨B.glob (by kernel_rfl), _, _, B.at rfl, rfl⟩
theorem fs__law_solve (B : Own G) : FS G 2 f__law_solve 272 := by
  refine FS.of (G := G) (f := Fx.mk "_law_solve" ?cs 272 (.ref 271) ["files", "ranks", "near", "column", "size", "won", "told", "nodes", "pawn", "strong", "weak", "side", "place", "sort", "out", "is_new", "known", "one"]) (n := 1) (fo := ?fo) (fname := ?p0) (params := ?p1) (body := ?p2) (doc := ?p3) (pm := ?p4) (ct := ?p5) (an := ?p6) ?ok (B.at ?hl) ?hd ?hcd ?hu ?hlen ?hcell ?hbind ?hb ?hco ?hgen
  case hl => exact rfl
  case hd => exact rfl
  case ok => exact ⟨rfl, by decide +kernel, by decide +kernel, by decide +kernel⟩
  case hcd => exact ⟨_, _, _, _, rfl, B.at (by rfl), rfl, rfl⟩
  case hu => rfl
  case hlen => decide
  case hcell => decide +kernel
  case hbind => intro us h; rcases us with _ | ⟨_, _ | ⟨_, _ | ⟨_, _ | ⟨_, _ | ⟨_, us⟩⟩⟩⟩⟩ <;> first | rfl | (exfalso; simp only [List.length_cons, List.length_nil] at h; omega)
  case hco => rfl
  case hgen => rfl
  case hb =>
    intro ok
    unfold b__law_solve
    exact (bs_cons (ss_set ok rfl (es_bin (op_mul _) (es_loc ok rfl) (es_loc ok rfl)))
     (bs_cons (ss_set ok rfl es_dict)
     (bs_cons (ss_set ok rfl es_dict)
     (bs_cons (ss_set ok rfl (es_list ls_nil))
     (bs_cons (ss_for (tgt_var ok rfl) (es_range3 ok (by kernel_rfl) (es_bin (op_add _) (es_loc ok rfl) (es_loc ok rfl)) (es_bin (op_sub _) (es_loc ok rfl) (es_loc ok rfl)) (es_loc ok rfl))
      (bs_one (ss_for (tgt_var ok rfl) (es_range1 ok (by kernel_rfl) (es_loc ok rfl))
       (bs_one (ss_for (tgt_var ok rfl) (es_range1 ok (by kernel_rfl) (es_loc ok rfl))
        (bs_one (ss_for (tgt_var ok rfl) (es_tup (ls_cons (es_int rfl) (ls_cons (es_int rfl) ls_nil)))
         (bs_cons (ss_set ok rfl (es_tup (ls_cons (es_loc ok rfl) (ls_cons (es_loc ok rfl) (ls_cons (es_loc ok rfl) (ls_cons (es_loc ok rfl) ls_nil))))))
         (bs_cons (ss_unpack ok (he_cons rfl (he_cons rfl he_nil)) rfl (es_call ok (by kernel_rfl) (by kernel_rfl) (at__law_after B) ((fs__law_after B).more (by decide)) (ls_cons (es_loc ok rfl) (ls_cons (es_loc ok rfl) (ls_cons es_bool (ls_cons (es_loc ok rfl) (ls_cons (es_loc ok rfl) (ls_cons (es_loc ok rfl) (ls_cons (es_loc ok rfl) (ls_cons (es_loc ok rfl) ls_nil))))))))))
         (bs_cons (ss_ssub (es_loc ok rfl) (es_loc ok rfl) (es_bin (op_mul _) (es_min ok (by kernel_rfl) (es_loc ok rfl) (es_int rfl)) (es_int rfl)))
         (bs_cons (ss_if (ts_cmp (cm_eq _) (es_loc ok rfl) (es_int rfl))
          (bs_one (ss_ssub (es_loc ok rfl) (es_loc ok rfl) es_bool))
          bs_nil)
         (bs_one (ss_if (ts_cmp (cm_eq _) (es_loc ok rfl) (es_int rfl))
          (bs_one (ss_expr (es_append (es_loc ok rfl) (es_tup (ls_cons (es_loc ok rfl) (ls_cons (es_loc ok rfl) ls_nil))) rfl) (by intro _; rfl)))
          bs_nil)))))))))))))
     (bs_cons (ss_set ok rfl es_bool)
     (bs_cons (ss_while (TS.of (es_loc ok rfl))
      (bs_cons (ss_set ok rfl es_bool)
      (bs_one (ss_for (tgt_tup ok (he_cons rfl (he_cons rfl he_nil)) rfl) (es_loc ok rfl)
       (bs_one (ss_if (ts_notin (es_loc ok rfl) (es_loc ok rfl))
        (bs_cons (ss_set ok rfl (es_int rfl))
        (bs_cons (ss_for (tgt_var ok rfl) (es_loc ok rfl)
         (bs_one (ss_if (ts_in (es_loc ok rfl) (es_loc ok rfl))
          (bs_one (ss_aug ok rfl (iop_add _) (es_int rfl)))
          bs_nil)))
        (bs_one (ss_if (TS.of (es_call ok (by kernel_rfl) (by kernel_rfl) (at__law_is_won B) ((fs__law_is_won B).more (by decide)) (ls_cons (es_sub (es_loc ok rfl) (es_int rfl)) (ls_cons (es_loc ok rfl) (ls_cons (es_len ok (by kernel_rfl) (es_loc ok rfl)) ls_nil)))))
         (bs_cons (ss_ssub (es_loc ok rfl) (es_loc ok rfl) es_bool)
         (bs_one (ss_set ok rfl es_bool)))
         bs_nil))))
        bs_nil))))))
     (bs_cons (ss_for (tgt_var ok rfl) (es_loc ok rfl)
      (bs_one (ss_ssub (es_loc ok rfl) (es_loc ok rfl) (es_int rfl))))
     (bs_one (ss_ret (es_loc ok rfl)))))))))))

theorem at__law_mirror (B : Own G) : FnAt G "_law_mirror" 279 := ⟨B.glob (by kernel_rfl), _, _, B.at rfl, rfl⟩
theorem fs__law_mirror (B : Own G) : FS G 1 f__law_mirror 279 := by
  refine FS.of (G := G) (f := Fx.mk "_law_mirror" ?cs 279 (.ref 278) ["files", "square"]) (n := 0) (fo := ?fo) (fname := ?p0) (params := ?p1) (body := ?p2) (doc := ?p3) (pm := ?p4) (ct := ?p5) (an := ?p6) ?ok (B.at ?hl) ?hd ?hcd ?hu ?hlen ?hcell ?hbind ?hb ?hco ?hgen
  case hl => exact rfl
  case hd => exact rfl
  case ok => exact ⟨rfl, by decide +kernel, by decide +kernel, by decide +kernel⟩
  case hcd => exact ⟨_, _, _, _, rfl, B.at (by rfl), rfl, rfl⟩
  case hu => rfl
  case hlen => decide
  case hcell => decide +kernel
  case hbind => intro us h; rcases us with _ | ⟨_, _ | ⟨_, _ | ⟨_, us⟩⟩⟩ <;> first | rfl | (exfalso; simp only [List.length_cons, List.length_nil] at h; omega)
  case hco => rfl
  case hgen => rfl
  case hb =>
    intro ok
    unfold b__law_mirror
    exact (bs_one (ss_ret (es_bin (op_sub _) (es_bin (op_sub _) (es_bin (op_add _) (es_bin (op_sub _) (es_loc ok rfl) (es_bin (op_mod _) (es_loc ok rfl) (es_loc ok rfl))) (es_loc ok rfl)) (es_int rfl)) (es_bin (op_mod _) (es_loc ok rfl) (es_loc ok rfl)))))

theorem at__law_turn (B : Own G) : FnAt G "_law_turn" 286 := ⟨B.glob (by kernel_rfl), _, _, B.at rfl, rfl⟩
theorem fs__law_turn (B : Own G) : FS G 1 f__law_turn 286 := by
  refine FS.of (G := G) (f := Fx.mk "_law_turn" ?cs 286 (.ref 285) ["files", "ranks", "square"]) (n := 0) (fo := ?fo) (fname := ?p0) (params := ?p1) (body := ?p2) (doc := ?p3) (pm := ?p4) (ct := ?p5) (an := ?p6) ?ok (B.at ?hl) ?hd ?hcd ?hu ?hlen ?hcell ?hbind ?hb ?hco ?hgen
  case hl => exact rfl
  case hd => exact rfl
  case ok => exact ⟨rfl, by decide +kernel, by decide +kernel, by decide +kernel⟩
  case hcd => exact ⟨_, _, _, _, rfl, B.at (by rfl), rfl, rfl⟩
  case hu => rfl
  case hlen => decide
  case hcell => decide +kernel
  case hbind => intro us h; rcases us with _ | ⟨_, _ | ⟨_, _ | ⟨_, _ | ⟨_, us⟩⟩⟩⟩ <;> first | rfl | (exfalso; simp only [List.length_cons, List.length_nil] at h; omega)
  case hco => rfl
  case hgen => rfl
  case hb =>
    intro ok
    unfold b__law_turn
    exact (bs_one (ss_ret (es_bin (op_add _) (es_bin (op_mul _) (es_bin (op_sub _) (es_bin (op_sub _) (es_loc ok rfl) (es_int rfl)) (es_bin (op_div _) (es_loc ok rfl) (es_loc ok rfl))) (es_loc ok rfl)) (es_bin (op_mod _) (es_loc ok rfl) (es_loc ok rfl)))))

end
end Kp
end
-- part KpExc
section
set_option autoImplicit false
set_option linter.unusedVariables false
set_option maxRecDepth 100000
set_option Elab.async false
namespace Kp
open PySem PySem.W PyProof.Rows PySem.Calls

abbrev FE := PySem.F.excBase_Exception
abbrev bmE : List Value := [.type "Exception", .type "BaseException", .type "object"]
abbrev bm58 : List Value := .ref 38 :: bmE
noncomputable abbrev K39 (w : World) : Frag := kP w.params
section
variable {prog : Program} {w : World} {A : Around} {E : Value → Shared → Prop} {h : Heap} {g : Array GenState} {d : Drawn} {t : Nat} {os : OsState}

theorem cls58 (w : World) : ∃ nm q N bs hdct sn sub ab col dd k0 k1 k2 k3 k5, (K39 w).lookup 58 = some (excClassObj nm q 58 N bs bm58 hdct sn sub ab col dd k0 k1 k2 k3 k5 "Exception.__new__") :=
  ⟨_, _, _, _, _, _, _, _, _, _, _, _, _, _, _, rfl⟩

variable {nm q : Str} {C N : Addr} {bs bm : List Value} {hdct : Bool} {sn : List Str} {sub : List Value} {ab : Bool} {col : Option Bool} {dd : Option Addr} {k0 k1 k2 k3 k5 : Option Value}

theorem check_init {M : Model} {e : Addr} {oe : Obj} {rest : List Value} {Q : Unit → Shared → Prop} (hB : bm.contains (.type "Exception") = true)
    (hC : h.get? C = some (excClassObj nm q C N bs bm hdct sn sub ab col dd k0 k1 k2 k3 k5 "Exception.__new__")) (he : h.get? e = some oe) (hcls : oe.cls = .ref C) (hq : Q () ⟨h, g, d, t, os⟩) :
    wpAny M A (checkBuiltinCall "Exception.__init__" ⟨.ref e :: rest, []⟩) Q E ⟨h, g, d, t, os⟩ := by
  have F := FE
  have hcB : (Value.ref C :: bm).contains (.type "Exception") = true := by rw [List.contains_cons, hB, Bool.or_true]
  have hshort := F.noStar
  simp only [checkBuiltinCall, F.initKind, F.initSplit, F.initRow]
  repeat (first | (with_reducible refine wpAny_loadPart_at he ?_; rw [hcls]) | with_reducible refine wpAny_loadPart_at hC ?_ | (with_reducible refine wpAny_isSubtype_exc hC ?_; rw [hcB]) | wp_step)
  refine wpAny_onRaise ?_
  rw [show ∀ (a b : String) (n : Nat), Bind.check ⟨.positional, "*", "Exception", .self, [⟨"args", .varPos, false⟩]⟩ a b n (List.map (fun x => x.fst) ({ pos := Value.ref e :: rest } : Args).kw) = pure () from
    fun a b n => check_star_args _ _ _ _ _ _]
  exact wpAny_pure hq
theorem check_new {M : Model} {rest : List Value} {Q : Unit → Shared → Prop} (hB : bm.contains (.type "Exception") = true) (hC : h.get? C = some (excClassObj nm q C N bs bm hdct sn sub ab col dd k0 k1 k2 k3 k5 "Exception.__new__"))
    (hq : Q () ⟨h, g, d, t, os⟩) : wpAny M A (checkBuiltinCall "Exception.__new__" ⟨.ref C :: rest, []⟩) Q E ⟨h, g, d, t, os⟩ := by
  have F := FE
  have hcont : (Value.ref C :: bm).contains (.type "Exception") = true := by rw [List.contains_cons, hB, Bool.or_true]
  have hstar := F.noStar
  simp only [checkBuiltinCall, F.newKind, F.newSplit, F.newRow]
  repeat (first | refine wpAny_loadPart_at hC ?_ | (refine wpAny_isSubtype_exc hC ?_; rw [hcont]) | refine wpAny_staticBase_exc hC ?_ | refine wpAny_madeBy_exc hC ?_ | simp only [bne_self_eq_false, Bool.false_eq_true, if_false] | wp_step)
  exact hq
theorem exc_new {R : Result → Shared → Prop} {rest : List Value} (hB : bm.contains (.type "Exception") = true) (hA : bm.contains (.type "AttributeError") = false) (hN : bm.contains (.type "NameError") = false)
    (hC : h.get? C = some (excClassObj nm q C N bs bm hdct sn sub ab col dd k0 k1 k2 k3 k5 "Exception.__new__"))
    (hq : R (.ok (.ret (.ref (h.objs.size + 1)))) ⟨(h.push { cls := .type "tuple", data := .seq rest.toArray }).push
      { cls := .ref C, data := .fields #[.ref h.objs.size, .none, .none, .none, .bool false, .none] }, g, d, t, os⟩) (hrest : rest.length ≤ sizeLine) :
    codeAny (model prog w) A (.builtin "Exception.__new__" ⟨.ref C :: rest, []⟩) R ⟨h, g, d, t, os⟩ := by
  have F := FE
  have hends := F.ends
  have hcB : (Value.ref C :: bm).contains (.type "Exception") = true := by rw [List.contains_cons, hB, Bool.or_true]
  have hcA : (Value.ref C :: bm).contains (.type "AttributeError") = false := by rw [List.contains_cons, hA]; rfl
  have hcN : (Value.ref C :: bm).contains (.type "NameError") = false := by rw [List.contains_cons, hN]; rfl
  refine codeAny_builtinAt F.entry ?_
  unfold Builtin.«BaseException.__new__»
  refine PySem.wpAt_bind ?_
  show PySem.wpAt _ _ _ (stack >>= _) _ _ _
  refine PySem.wpAt_bind (PySem.wpAt_stack fun p below => PySem.wpAt_of_wpAny ?_)
  wp_walk
  refine PySem.wpAt_of_wpAny ?_
  rw [F.owner]
  repeat (first | with_reducible refine wpAny_madeHere_exc F.canon hC ?_ | with_reducible refine wpAny_loadPart_at hC ?_ | (with_reducible refine wpAny_isSubtype_exc hC ?_; first | rw [hcB] | rw [hcA] | rw [hcN]) | wp_step)
  show R _ _
  rw [Heap.size_push]
  exact hq

-- an exception under way: its object, as far as asked
structure Exc (h₀ : Heap) (e : Addr) (n : Nat) (h : Heap) : Prop where
  keeps : ∀ b o, h₀.get? b = some o → h.get? b = some o
  new : h₀.get? e = none
  there : ∃ oe vs t, h.get? e = some oe ∧ oe.cls = .ref 58 ∧ oe.data = .fields vs ∧ vs[1]? = some .none ∧ vs[0]? = some (.ref t) ∧
    (oe.dict = none ∨ ∃ dd es m, oe.dict = some dd ∧ dd ≠ e ∧ h₀.get? dd = none ∧ h.get? dd = some (dictOf es m) ∧ (∀ x ∈ es, ∃ y t, x.key = .str y t) ∧ es.length ≤ n ∧ 0 < n)
theorem Exc.grow {h₀ h h' : Heap} {e : Addr} {n : Nat} (x : Exc h₀ e n h) (k : ∀ b o, h.get? b = some o → h'.get? b = some o) : Exc h₀ e n h' := by
  obtain ⟨x1, x2, oe, vs, t, a, b, c, d, f, z⟩ := x
  refine ⟨fun b o q => k _ _ (x1 b o q), x2, oe, vs, t, k _ _ a, b, c, d, f, ?_⟩
  rcases z with z | ⟨dd, es, m, z1, z2, z3, z4, z5⟩
  · exact .inl z
  · exact .inr ⟨dd, es, m, z1, z2, z3, k _ _ z4, z5⟩

-- Exception.__init__(self, v)
theorem exc_init {h₀ : Heap} {e : Addr} {n : Nat} {v : Value} {Q : Value → Shared → Prop} (X : (K39 w).In h) (x : Exc h₀ e n h)
    (hq : ∀ h', Exc h₀ e n h' → (∀ b o, b ≠ e → h.get? b = some o → h'.get? b = some o) → Q .none ⟨h', g, d, t, os⟩) : wpAny (model prog w) A (call (.builtin "Exception.__init__") [.ref e, v]) Q E ⟨h, g, d, t, os⟩ := by
  obtain ⟨x1, x2, oe, vs, t0, a, b, c, d1, f, z⟩ := x
  obtain ⟨_, _, _, _, _, _, _, _, _, _, _, _, _, _, _, hl⟩ := cls58 w
  have hC := X _ _ hl
  refine wpAny_call (codeAny_call_builtin FE.init.plain FE.initEntry (check_init (by decide) hC a b ?_))
  unfold Builtin.«BaseException.__init__»
  refine wpAny_bind (wpAny_newObj_type ?_ (by show [v].toArray.size ≤ sizeLine; rw [sizeLine_eq]; simp))
  have e1 : (h.push { cls := .type "tuple", data := .seq [v].toArray }).get? e = some oe := Heap.get?_push_of_some _ a
  have d3 := Obj.data_mapFields c (·.setIfInBounds 0 (Value.ref h.objs.size))
  have e3 := Heap.get?_update_self (Obj.mapFields (·.setIfInBounds 0 (Value.ref h.objs.size))) e1 (Obj.isFreed_of_fields d3)
  have oth : ∀ b o, b ≠ e → h.get? b = some o → ((h.push { cls := .type "tuple", data := .seq [v].toArray }).update e (Obj.mapFields (·.setIfInBounds 0 (Value.ref h.objs.size)))).get? b = some o := fun b o q r => by
    rw [Heap.get?_update_other _ _ (Ne.symm q)]; exact Heap.get?_push_of_some _ r
  have ne : ∀ b o, h₀.get? b = some o → b ≠ e := fun b o q r => by rw [r, x2] at q; cases q
  have fin : Exc h₀ e n ((h.push { cls := .type "tuple", data := .seq [v].toArray }).update e (Obj.mapFields (·.setIfInBounds 0 (Value.ref h.objs.size)))) := by
    refine ⟨fun b o q => oth b o (ne b o q) (x1 b o q), x2, _, _, h.objs.size, e3, (Obj.cls_mapFields ..).trans b, d3, ?_, ?_, ?_⟩
    · rw [Array.getElem?_setIfInBounds_ne (by decide)]; exact d1
    · have := (Array.getElem?_eq_some_iff.mp f).1
      simp [this]
    · have hdict : (Obj.mapFields (·.setIfInBounds 0 (Value.ref h.objs.size)) oe).dict = oe.dict := by obtain ⟨_, _, dt, _⟩ := oe; cases c; rfl
      rw [hdict]
      rcases z with z | ⟨dd, es, m, z1, z2, z3, z4, z5⟩
      · exact .inl z
      · exact .inr ⟨dd, es, m, z1, z2, z3, oth _ _ z2 z4, z5⟩
  refine wpAny_bind ?_
  unfold Builtin.BaseException.bexcPut
  refine wpAny_bind (wpAny_field e1 c f (wpAny_bind (wpAny_setField e1 c (Array.getElem?_eq_some_iff.mp f).1 ?_)))
  refine wpAny_bind (wpAny_holding (wpAny_point ?_))
  exact wpAny_pure (wpAny_pure (hq _ fin oth))

theorem refuse_bm (self : Value) : refuseLoop self "__setattr__" bmE = pure () := by
  unfold refuseLoop
  simp only [List.forIn_cons]
  have e1 : classOwn (.type "Exception") "__setattr__" = pure none := by show pure (builtinOwn _ _) = _; rw [builtinOwn_eq_fast]; kernel_rfl
  have e2 : classOwn (.type "BaseException") "__setattr__" = pure none := by show pure (builtinOwn _ _) = _; rw [builtinOwn_eq_fast]; kernel_rfl
  have e3 : classOwn (.type "object") "__setattr__" = pure (some (.builtin "object.__setattr__")) := by show pure (builtinOwn _ _) = _; rw [builtinOwn_eq_fast]; kernel_rfl
  rw [e1, e2, e3]
  rfl
theorem exc_inst {h₀ : Heap} {e : Addr} {n : Nat} (x : Exc h₀ e n h) : ∃ oe od, PySem.W.InstAt h e oe 58 od := by
  obtain ⟨x1, x2, oe, vs, t0, a, b, c, d1, f, z⟩ := x
  have nc : notCls oe = true := by unfold notCls; rw [c]
  rcases z with z | ⟨dd, es, m, z1, z2, z3, z4, z5⟩
  · exact ⟨oe, none, a, b, nc, by rw [z]; trivial⟩
  · exact ⟨oe, some (dictOf es m), a, b, nc, by rw [z1]; exact z4⟩
theorem ns_store {dd : Addr} {nm : Str} {tk : Tok} {v : Value} {es : List DictEntry} {m : Nat} {s : Shared} {R : PySem.Fin → Shared → Prop} (D : s.heap.get? dd = some (dictOf es m)) (hk : (getL nm es).isSome = true) (hz : es.length ≤ 1000)
    (hq : ∀ h' tk, h'.get? dd = some (dictOf (putL nm (PyData.keyHash w.params nm) (.str nm tk) v es) (putN nm es m)) → Heap.SameBut dd s.heap h' → R (.done (.ret .none)) { s with heap := h', toks := s.toks + 1 }) :
    wpAny (model prog w) A (Builtin.ObjectAttr.storeInDict dd (.str nm tk) nm v) R E s := by
  refine wpAny_bind (wpAny_pure (wpAny_bind ?_))
  unfold nsSet
  refine wpAny_bind (wpAny_bind (wpAny_askSetting (wpAny_pure (wpAny_bind (wpAny_mkText (wpAny_bind (wpAny_loadPart (s := { s with toks := s.toks + 1 }) D ?_)))))))
  dsimp only
  have c : (!es.toArray.any (·.key.isStr nm) && es.toArray.any (·.refKey)) = false := by
    rw [← Array.any_toList, ← Array.any_toList]
    unfold getL at hk
    split at hk
    · rename_i en he
      rw [List.any_eq_true.mpr ⟨en, List.mem_of_find?_eq_some he, List.find?_some he⟩]; rfl
    · split at hk
      · cases hk
      · rename_i z; rw [Bool.not_eq_true] at z
        show (_ && es.any _) = false
        rw [z, Bool.and_false]
  rw [aRefKeyMayBeTheName_at, c]
  have e : Obj.putName nm (PyData.keyHash w.params nm) (.str nm s.toks) v (dictOf es m) = dictOf (putL nm (PyData.keyHash w.params nm) (.str nm s.toks) v es) (putN nm es m) := putName_dict ..
  have D' : (s.heap.update dd (Obj.putName nm (PyData.keyHash w.params nm) (.str nm s.toks) v)).get? dd = some (dictOf (putL nm (PyData.keyHash w.params nm) (.str nm s.toks) v es) (putN nm es m)) := by
    rw [Heap.get?_update_self _ D (by rw [e]; rfl), e]
  have hlen := len_putL (nm := nm) (hsh := PyData.keyHash w.params nm) (key := .str nm s.toks) (v := v) es
  refine wpAny_updatePart (s := { s with toks := s.toks + 1 }) D ?_
  refine wpAny_bind (wpAny_lookBehind D' (pastItsLine_dict (by rw [List.size_toArray, sizeLine_eq, hlen]; split <;> (first | lia | omega))) ?_)
  exact wpAny_pure (hq _ _ D' (Heap.SameBut.update ..))
theorem exc_set {s : Shared} {h₀ : Heap} {e : Addr} {n : Nat} {nm : Str} {v : Value} {Q : Unit → Shared → Prop} (X : (K39 w).In s.heap) (x : Exc h₀ e n s.heap) (hnm : findIn (K39 w) (.ref 58) nm = some none) (hn : n ≤ 100)
    (hq : ∀ h' tk, Exc h₀ e (n + 1) h' → (n = 0 → ∀ b o, b ≠ e → s.heap.get? b = some o → h'.get? b = some o) → Q () { s with heap := h', toks := tk }) : wpAny (model prog w) A (setAttr (.ref e) nm v) Q E s := by
  obtain ⟨ox, od, I⟩ := exc_inst x
  have SF := PySem.F.store_object
  refine set_plain X I (by kernel_rfl) ?_
  have sub : Looks (model prog w) s.heap (isInstance (.ref e) (.type "object")) true := I.type.andThen (looks_mroIn X (by kernel_rfl))
  refine codeAny_call_builtin SF.slot.plain SF.entry (@check_slot (model prog w) _ _ { s with toks := s.toks + 1 } "object.__setattr__" "object" "__setattr__" (.ref e) [.str nm s.toks, v] [] _ SF.kind SF.split sub (SF.args (.ref e) (.str nm s.toks) v) ?_)
  obtain ⟨cd, hc, hm0⟩ : ∃ cd, clsIn (K39 w) 58 = some cd ∧ cd.mro = .ref 58 :: .ref 38 :: bmE ∧ cd.hasDict = true := ⟨_, rfl, rfl, rfl⟩
  obtain ⟨hm0, hdict⟩ := hm0
  have hm : Looks (model prog w) s.heap (mroOf (.ref 58)) cd.mro := (looks_clsIn X hc).andThen .now
  rw [osa_eq, refuse_eq]
  refine wpAny_bind (wpAny_bind (I.type _ _ _ _ (fun _ _ e => e) (wpAny_bind (hm _ _ _ _ (fun _ _ e => e) ?_))))
  rw [hm0, refuseLoop_ref, refuseLoop_ref, refuse_bm]
  refine wpAny_pure (wpAny_bind (I.type _ _ _ _ (fun _ _ e => e) (wpAny_bind (looks_findIn X hnm _ _ _ _ (fun _ _ e => e) (wpAny_bind (wpAny_pure ?_))))))
  show wpAny _ _ (Builtin.ObjectAttr.storeInOwnDict (.ref e) (.ref 58) (.str nm s.toks) nm v _) _ _ _
  obtain ⟨x1, x2, oe, vs, t0, a, b, c, d1, f, z⟩ := x
  obtain ⟨oc, odi, oda, osl⟩ := oe
  dsimp only at b c z
  subst b c
  refine wpAny_bind (wpAny_pure (wpAny_bind (wpAny_bind (wpAny_loadPart (s := { s with toks := s.toks + 1 }) a (wpAny_bind (looks_clsIn X hc _ _ _ _ (fun _ _ e => e) ?_))))))
  rw [hdict]
  have ne : ∀ b o, h₀.get? b = some o → b ≠ e := fun b o q r => by rw [r, x2] at q; cases q
  rcases z with z | ⟨dd, es, m, rfl, z2, z3, z4, z5, z6, z7⟩
  · subst z
    refine wpAny_bind (wpAny_alloc ?_)
    have e1 : (s.heap.push { cls := .type "dict", data := .dict #[] }).get? e = some { cls := .ref 58, data := .fields vs, slots := osl } := Heap.get?_push_of_some _ a
    have hde : s.heap.objs.size ≠ e := Nat.ne_of_gt (Heap.lt_size a)
    refine wpAny_bind (wpAny_update e1 (wpAny_bind (wpAny_pure (wpAny_pure ?_))))
    have e2 := Heap.get?_update_self (fun o : Obj => { cls := o.cls, dict := some s.heap.objs.size, data := o.data, slots := o.slots }) e1 rfl
    have oth : ∀ b o, b ≠ e → s.heap.get? b = some o → ((s.heap.push { cls := .type "dict", data := .dict #[] }).update e (fun o : Obj => { cls := o.cls, dict := some s.heap.objs.size, data := o.data, slots := o.slots })).get? b = some o := fun b o q r => by
      rw [Heap.get?_update_other _ _ (Ne.symm q)]; exact Heap.get?_push_of_some _ r
    have d2 : ((s.heap.push { cls := .type "dict", data := .dict #[] }).update e (fun o : Obj => { cls := o.cls, dict := some s.heap.objs.size, data := o.data, slots := o.slots })).get? s.heap.objs.size = some (dictOf [] 0) := by
      rw [Heap.get?_update_other _ _ (Ne.symm hde)]; exact Heap.get?_push_size _ rfl
    have newd : h₀.get? s.heap.objs.size = none := by
      cases q : h₀.get? s.heap.objs.size with
      | none => rfl
      | some o => exact absurd (Heap.lt_size (x1 _ _ q)) (Nat.lt_irrefl _)
    refine ns_store d2 (by rfl) (by simp) fun h' tk hd' hs' => ?_
    have oth2 : ∀ b o, b ≠ e → s.heap.get? b = some o → h'.get? b = some o := fun b o q r => (hs'.2 b fun z => by rw [z] at r; exact absurd (Heap.lt_size r) (Nat.lt_irrefl _)).trans (oth b o q r)
    refine hq h' _ ⟨fun b o q => oth2 b o (ne b o q) (x1 b o q), x2, _, vs, t0, (hs'.2 e (Ne.symm hde)).trans e2, rfl, rfl, d1, f, ?_⟩ fun _ => oth2
    exact .inr ⟨s.heap.objs.size, _, _, rfl, hde, newd, hd', keys_putL (fun x h => by simp at h), by simp [putL], by (first | lia | omega)⟩
  · refine wpAny_pure (a := some dd) (ns_store (s := { s with toks := s.toks + 1 }) z4 (by rw [getL_of_keys z5]; rfl) (by (first | lia | omega)) fun h' tk hd' hs' => ?_)
    have oth : ∀ b o, b ≠ dd → s.heap.get? b = some o → h'.get? b = some o := fun b o q r => (hs'.2 b q).trans r
    refine hq h' _ ⟨fun b o q => oth b o (fun r => by rw [r, z3] at q; cases q) (x1 b o q), x2, _, vs, t0, oth _ _ (Ne.symm z2) a, rfl, rfl, d1, f, ?_⟩ fun q => by (first | lia | omega)
    refine .inr ⟨dd, _, _, rfl, z2, z3, hd', keys_putL z5, ?_, by (first | lia | omega)⟩
    rw [len_putL]; split <;> (first | lia | omega)
end
end Kp
end
-- part KpExc2
section
set_option autoImplicit false
set_option linter.unusedVariables false
set_option maxRecDepth 100000
set_option Elab.async false
namespace Kp
open PySem PySem.W PyProof.Rows PySem.Calls

section
variable {G : Base} {A : Around} {E : Value → Shared → Prop}
theorem mg_ChessError (B : Own G) : G.mg "ChessError" = some (.ref 38) := B.glob (by kernel_rfl)
theorem mg_BadSquare (B : Own G) : G.mg "BadSquare" = some (.ref 58) := B.glob (by kernel_rfl)
theorem exc_app {h₀ h : Heap} {e : Addr} {n m : Nat} (x : Exc h₀ e n h) (hn : n ≤ m) : Exc h₀ e m h := by
  obtain ⟨x1, x2, oe, vs, t, a, b, c, d, f, z⟩ := x
  refine ⟨x1, x2, oe, vs, t, a, b, c, d, f, ?_⟩
  rcases z with z | ⟨dd, es, m, z1, z2, z3, z4, z5, z6, z7⟩
  · exact .inl z
  · exact .inr ⟨dd, es, m, z1, z2, z3, z4, z5, by (first | lia | omega), by (first | lia | omega)⟩
theorem local_name {env : Env} {s : Shared} {x : Str} {pos : Pos} {m : Str → Option Value} {v : Value} {Q : Value → Shared → Prop} (hk : env.scope.kind = .function) (hl : env.scope.names.lookup x = some .local) (hd : (x == ("__debug__" : Str)) = false)
    (ns : s.heap.Ns env.locals m) (e : m x = some v) (q : Q v s) : wpAny G.M A (eval (.Name x pos) env) Q E s :=
  wpAny_Name (wpAny_loadName_local hk hl ns e q) hd

theorem args_nc {env : Env} {s : Shared} {x y : Str} {p p2 pos : Pos} {k : Nat} {f v : Value} {m : Str → Option Value} {Q : Args → Shared → Prop} (hk : env.scope.kind = .function) (hl : env.scope.names.lookup x = some .local) (hd : (x == ("__debug__" : Str)) = false)
    (ns : s.heap.Ns env.locals m) (e : m x = some v) (q : Q ⟨[v, .str y s.toks], []⟩ { s with toks := s.toks + 1 }) : wpAny G.M A (evalArgs f true (backTo pos (starEach [.Name x p, .Constant (.str y) k p2] env)) []) Q E s := by
  show wpAny _ _ (evalArgs f true [(false, eval (.Name x p) env), (false, eval (.Constant (.str y) k p2) env)] []) _ _ _
  exact evalArgs_plain (spliced_cons (local_name hk hl hd ns e (spliced_cons (wpAny_Constant_str (spliced_nil q)))))
theorem gm_exc {s : Shared} {pl : Sem Bool} {Q : Value × List Value → Shared → Prop} (X : (K39 G.w).In s.heap) (h : Q (.builtin "Exception.__init__", []) { s with toks := s.toks + 1 }) : wpAny G.M A (getMethod (.type "Exception") "__init__" pl) Q E s := by
  have hstub : opaqueClassAbove (.type "Exception") = pure none := by unfold opaqueClassAbove; dsimp only; rw [show Manifest.isStub "Exception" = false by decide +kernel]; rfl
  have ht : typeOf (.type "Exception") = pure (.type "type") := by first | rfl | kernel_rfl
  have L0 : Looks G.M s.heap (typeOf (.type "Exception")) (.type "type") := Looks.of_pure ht
  have hg : findIn (K39 G.w) (.type "type") "__getattribute__" = some (some (.builtin "type.__getattribute__")) := type_tga
  unfold getMethod specialOf
  refine wpAny_bind (wpAny_bind (L0.here ((looks_findIn X hg).here ?_)))
  dsimp only
  rw [if_pos canon_tga]
  refine wpAny_bind (wpAny_mono (Q := fun v => Q (v, [])) (E := E) ?_ (fun _ _ z => wpAny_pure z) fun _ _ z => z)
  have LO : Looks G.M s.heap (opaqueClassAbove (.type "Exception")) none := Looks.of_pure hstub
  have e : findCls (K39 G.w) (.type "Exception") (.type "type") "__init__" = some (.val (.builtin "Exception.__init__")) := by kernel_rfl
  refine cls_open X LO L0 hg (looks_hook X (r := none) (by rfl)) (by show subIn _ _ _ = _; rfl) e ?_
  exact wpAny_pure (handed_on (by rfl) h)
theorem gm_cls {s : Shared} {pl : Sem Bool} {Q : Value × List Value → Shared → Prop} (X : (K39 G.w).In s.heap) (h : Q (.ref 35, []) { s with toks := s.toks + 1 }) : wpAny G.M A (getMethod (.ref 38) "__init__" pl) Q E s :=
  method_cls X (by kernel_rfl) (cls_value (mc := .type "type") X (by kernel_rfl) (by kernel_rfl) (by rfl) h)

-- ChessError.__init__(e, v)
theorem init35 (B : Own G) (hmE : G.mg "Exception" = none) (hbE : G.mb "Exception" = bootBuiltins "Exception") {h₀ : Heap} {e : Addr} {s : Shared} {v : Value} {R : Result → Shared → Prop} (hA : A.depth < recursionLimit) (hk0 : ∀ b o, G.h₀.get? b = some o → h₀.get? b = some o)
    (x : Exc h₀ e 0 s.heap)
    (hq : ∀ h' tk, Exc h₀ e 1 h' → (∀ b o, b ≠ e → s.heap.get? b = some o → h'.get? b = some o) → R (.ok (.ret .none)) { s with heap := h', toks := tk }) :
    codeAny G.M A (.call (.ref 35) ⟨[.ref e, v], []⟩) R s := by
  have hk : ∀ b o, G.h₀.get? b = some o → s.heap.get? b = some o := fun b o q => x.keeps _ _ (hk0 b o q)
  refine codeAny_call_def (o := ?o) (fd := ?fd) (body := ?body) (binds := [("self", .ref e), ("text", v)]) hA (hk _ _ (B.at ?hl)) ?hd (G.lim.keeps hk) ?hcd ?hbody ?hbind ?hcell ?hloc (fun h1 hns kp => ?_) ?hco ?hgen ?hkind
  case hl => exact rfl
  case hd => exact rfl
  case hcd => exact Heap.CodeRec.keeps (h := G.h₀) ⟨_, _, _, _, rfl, B.at (by rfl), rfl, rfl⟩ hk
  case hbody => rfl
  case hbind => exact BindsTo.of_eq (by rfl)
  case hcell => decide +kernel
  case hloc => intro x hx; simp only [List.mem_cons, List.not_mem_nil, or_false] at hx; rcases hx with rfl | rfl <;> rfl
  case hco => rfl
  case hgen => rfl
  case hkind => rfl
  have kp' : ∀ b o, G.h₀.get? b = some o → h1.get? b = some o := fun b o q => kp _ _ (hk b o q)
  have X1 : (K39 G.w).In h1 := fun b o q => kp' _ _ (G.X _ _ (by rw [B.K]; exact q))
  have x1 := x.grow kp
  refine wpAny_execs_cons (wpAny_Expr_any (methodCall_KW (pl := _) (Name_function_global (by rfl) (by rfl) (loadGlobal_builtin (G.g.keeps kp') hmE (G.b.keeps kp') (hbE.trans (by decide +kernel : bootBuiltins "Exception" = some (.type "Exception"))) ?_)) (by rfl)))
  refine gm_exc (s := { heap := h1, gens := s.gens, drawn := s.drawn, toks := s.toks + 2, os := s.os }) X1 (callWith_builtin (by rfl) (evalArgs_plain ?_))
  refine spliced_cons (local_name (by rfl) (by rfl) (by decide) hns rfl (spliced_cons (local_name (by rfl) (by rfl) (by decide) hns rfl (spliced_nil ?_))))
  refine exc_init X1 x1 fun h2 x2 o2 => ?_
  have ne : s.heap.objs.size ≠ e := by
    obtain ⟨_, _, oe, vs, t, a, _⟩ := x
    exact Nat.ne_of_gt (Heap.lt_size a)
  have hns2 : h2.Ns s.heap.objs.size fun x => List.lookup x [(Str.ofString "self", Value.ref e), (Str.ofString "text", v)].reverse := by
    obtain ⟨o, es, ep, ho, z⟩ := hns
    exact ⟨o, es, ep, o2 _ _ ne ho, z⟩
  have X2 : (K39 G.w).In h2 := fun b o q => x2.keeps _ _ (hk0 _ _ (G.X _ _ (by rw [B.K]; exact q)))
  refine wpAny_execs_cons (plainObj_wpAny_Assign_Attribute (local_name (by rfl) (by rfl) (by decide) hns2 rfl (local_name (by rfl) (by rfl) (by decide) hns2 rfl ?_)))
  refine exc_set X2 x2 (by kernel_rfl) (by (first | lia | omega)) fun h3 tk x3 o3 => wpAny_execs_nil ?_
  exact hq h3 tk x3 fun b o q r => o3 rfl b o q (o2 b o q (kp b o r))

-- BadSquare.__init__(e, v)
theorem init55 (B : Own G) (hmE : G.mg "Exception" = none) (hbE : G.mb "Exception" = bootBuiltins "Exception") {h₀ : Heap} {e : Addr} {s : Shared} {v : Value} {R : Result → Shared → Prop} (hA : A.depth + 1 < recursionLimit) (hk0 : ∀ b o, G.h₀.get? b = some o → h₀.get? b = some o)
    (x : Exc h₀ e 0 s.heap)
    (hq : ∀ h' tk, Exc h₀ e 2 h' → R (.ok (.ret .none)) { s with heap := h', toks := tk }) :
    codeAny G.M A (.call (.ref 55) ⟨[.ref e, v], []⟩) R s := by
  have hk : ∀ b o, G.h₀.get? b = some o → s.heap.get? b = some o := fun b o q => x.keeps _ _ (hk0 b o q)
  refine codeAny_call_def (o := ?o) (fd := ?fd) (body := ?body) (binds := [("self", .ref e), ("square", v)]) (by (first | lia | omega)) (hk _ _ (B.at ?hl)) ?hd (G.lim.keeps hk) ?hcd ?hbody ?hbind ?hcell ?hloc (fun h1 hns kp => ?_) ?hco ?hgen ?hkind
  case hl => exact rfl
  case hd => exact rfl
  case hcd => exact Heap.CodeRec.keeps (h := G.h₀) ⟨_, _, _, _, rfl, B.at (by rfl), rfl, rfl⟩ hk
  case hbody => rfl
  case hbind => exact BindsTo.of_eq (by rfl)
  case hcell => decide +kernel
  case hloc => intro x hx; simp only [List.mem_cons, List.not_mem_nil, or_false] at hx; rcases hx with rfl | rfl <;> rfl
  case hco => rfl
  case hgen => rfl
  case hkind => rfl
  have kp' : ∀ b o, G.h₀.get? b = some o → h1.get? b = some o := fun b o q => kp _ _ (hk b o q)
  have X1 : (K39 G.w).In h1 := fun b o q => kp' _ _ (G.X _ _ (by rw [B.K]; exact q))
  have x1 := x.grow kp
  refine wpAny_execs_cons (wpAny_Expr_any (methodCall_KW (pl := _) (Name_function_global (by rfl) (by rfl) (loadGlobal_global (G.g.keeps kp') (mg_ChessError B) ?_)) (by rfl)))
  refine gm_cls (s := { heap := h1, gens := s.gens, drawn := s.drawn, toks := s.toks + 2, os := s.os }) X1 (callWith_function (o := ?o2) (fd := ?fd2) ?main)
  case main =>
  refine args_nc (by rfl) (by rfl) (by decide) hns rfl ⟨⟨kp' _ _ (B.at ?ho), ?hd2⟩, ?_⟩
  case ho => exact rfl
  case hd2 => exact rfl
  refine wpAny_call (init35 (s := { heap := h1, gens := s.gens, drawn := s.drawn, toks := s.toks + 4, os := s.os }) B hmE hbE (by show A.depth + 1 < _; (first | lia | omega)) hk0 x1 fun h2 tk x2 o2 => ?_)
  have ne : s.heap.objs.size ≠ e := by
    obtain ⟨_, _, oe, vs, t, a, _⟩ := x
    exact Nat.ne_of_gt (Heap.lt_size a)
  have hns2 : h2.Ns s.heap.objs.size fun x => List.lookup x [(Str.ofString "self", Value.ref e), (Str.ofString "square", v)].reverse := by
    obtain ⟨o, es, ep, ho, z⟩ := hns
    exact ⟨o, es, ep, o2 _ _ ne ho, z⟩
  have X2 : (K39 G.w).In h2 := fun b o q => x2.keeps _ _ (hk0 _ _ (G.X _ _ (by rw [B.K]; exact q)))
  refine wpAny_execs_cons (plainObj_wpAny_Assign_Attribute (local_name (by rfl) (by rfl) (by decide) hns2 rfl (local_name (by rfl) (by rfl) (by decide) hns2 rfl ?_)))
  refine exc_set X2 x2 (by kernel_rfl) (by (first | lia | omega)) fun h3 tk x3 o3 => wpAny_execs_nil ?_
  exact hq h3 tk x3

-- the class called
theorem call58 (B : Own G) (hmE : G.mg "Exception" = none) (hbE : G.mb "Exception" = bootBuiltins "Exception") {s : Shared} {v : Value} {Q : Value → Shared → Prop} (hA : A.depth + 2 < recursionLimit) (hk0 : ∀ b o, G.h₀.get? b = some o → s.heap.get? b = some o)
    (hq : ∀ h' e tk, Exc s.heap e 2 h' → Q (.ref e) { s with heap := h', toks := tk }) :
    wpAny G.M A (call (.ref 58) [v]) Q E s := by
  have X : (K39 G.w).In s.heap := fun b o q => hk0 _ _ (G.X _ _ (by rw [B.K]; exact q))
  obtain ⟨nm, q, N, bs, hdct, sn, sub, ab, col, dd, k0, k1, k2, k3, k5, hl⟩ := cls58 G.w
  have hC := X _ _ hl
  have f1 := tc_lookup
  have f2 := tc_bind (.ref 58)
  obtain ⟨h, g, d, t, os⟩ := s
  have hT : (⟨h, g, d, t, os⟩ : Shared).TypeIs (.ref 58) "type" := ⟨_, hC, rfl⟩
  dsimp only at hC X hk0
  refine wpAny_call (codeAny_of_tree ?_)
  show wpAny _ _ (callAny (.ref 58) _) _ _ _
  repeat (any_goals (first | assumption | with_reducible refine wpAny_loadPart_at hC ?_ | wp_step))
  refine ⟨rfl, ?_⟩
  refine codeAny_call_builtin_at (Code.quiet_builtin _ (by decide +kernel)) entry_typeCall (wpAny_check_type_call_sub hC ?_)
  repeat (first | with_reducible refine wpAny_loadPart_at hC ?_ | with_reducible refine wpAny_madeBy_exc hC ?_ | wp_step)
  refine codeAny_call_builtin_code (Code.quiet_builtin _ FE.quiet) (check_new (by decide) hC ?_)
  refine exc_new (by decide) (by decide) (by decide) hC ?_ (by simp [sizeLine_eq])
  show wpAny _ _ _ _ _ ⟨((h.push { cls := .type "tuple", data := .seq [v].toArray }).push { cls := .ref 58, data := .fields #[.ref h.objs.size, .none, .none, .none, .bool false, .none] }), g, d, t, os⟩
  have k1 : ∀ b o, h.get? b = some o → ((h.push { cls := .type "tuple", data := .seq [v].toArray }).push { cls := .ref 58, data := .fields #[.ref h.objs.size, .none, .none, .none, .bool false, .none] }).get? b = some o :=
    fun b o e => Heap.get?_push_of_some _ (Heap.get?_push_of_some _ e)
  have hC₁ := k1 _ _ hC
  have hget : ((h.push { cls := .type "tuple", data := .seq [v].toArray }).push
      { cls := .ref 58, data := .fields #[.ref h.objs.size, .none, .none, .none, .bool false, .none] }).get? (h.objs.size + 1) = some
      { cls := .ref 58, data := .fields #[.ref h.objs.size, .none, .none, .none, .bool false, .none] } := by heap_get
  have hcC : (Value.ref 58 :: bm58).contains (.ref 58) = true := by simp
  have X1 : (K39 G.w).In ((h.push { cls := .type "tuple", data := .seq [v].toArray }).push { cls := .ref 58, data := .fields #[.ref h.objs.size, .none, .none, .none, .bool false, .none] }) := fun b o q => k1 _ _ (X b o q)
  unfold isInstance
  repeat (first | with_reducible refine wpAny_loadPart_at hget ?_ | (with_reducible refine wpAny_isSubtype_exc hC₁ ?_; rw [hcC]) | wp_step)
  show wpAny _ _ (typeLookup (.ref 58) _) _ _ _
  refine looks_findIn X1 (r := some (.ref 55)) (by kernel_rfl) _ _ _ _ (fun _ _ e => e) ?_
  refine wpAny_holding (wpAny_bind ((bind_fn X1 (.ref (h.objs.size + 1)) (by kernel_rfl)).here (wpAny_bind (wpAny_call ?_))))
  have x0 : Exc h (h.objs.size + 1) 0 ((h.push { cls := .type "tuple", data := .seq [v].toArray }).push { cls := .ref 58, data := .fields #[.ref h.objs.size, .none, .none, .none, .bool false, .none] }) :=
    ⟨k1, Heap.get?_none_of_le (Nat.le_succ _), _, _, _, hget, rfl, rfl, rfl, rfl, .inl rfl⟩
  refine init55 (s := ⟨((h.push { cls := .type "tuple", data := .seq [v].toArray }).push { cls := .ref 58, data := .fields #[.ref h.objs.size, .none, .none, .none, .bool false, .none] }), g, d, t, os⟩) B hmE hbE (by show A.depth + 1 + 1 < _; (first | lia | omega)) hk0 x0 fun h' tk x' => ?_
  refine wpAny_pure (wpAny_pure ?_)
  exact hq h' _ tk x'
end
end Kp
end
-- part KpX
section
set_option autoImplicit false
set_option linter.unusedVariables false
set_option maxRecDepth 100000
set_option Elab.async false
namespace Kp
open PySem PySem.W PyProof.Rows PySem.Calls

-- an exception on its way through the frame of l's head
noncomputable def XAt (base : Heap) (l : List Env) (L ea : Addr) (h : Heap) : Prop := base.StaysIn h ∧ base.get? ea = none ∧ h.FunFrames base l ∧
  ((∃ oe vs t, h.get? ea = some oe ∧ oe.cls = .ref 58 ∧ oe.data = .fields vs ∧ vs[1]? = some .none ∧ vs[0]? = some (.ref t)) ∨ (∃ a0, h.TracedAtW base ea (.ref 58) a0 (rawInt L)) ∨ ∃ a0, h.TracedW base ea (.ref 58) a0)

section
variable {M : Model} {A : Around} {E : Value → Shared → Prop} {s : Shared} {base : Heap} {env : Env} {outer : List Env} {L ea : Addr}
theorem XAt.leave {Q : Unit → Shared → Prop} (hfr : A.frames = some (env :: outer)) (hf : env.frame = some L) (x : XAt base (env :: outer) L ea s.heap)
    (hq : ∀ h' a0, Heap.FlyingW base outer ea (.ref 58) a0 h' → s.heap.UpToSlots h' → Q () { s with heap := h' }) : wpAny M A (leaving env (.ref ea)) Q E s := by
  obtain ⟨x1, x2, x3, ⟨oe, vs, t, a, b, c, d, f⟩ | ⟨a0, x⟩ | ⟨a0, x⟩⟩ := x
  · refine wpAny_leaving_firstW hfr x3 hf a x1 x2 c d f fun h' hL => ?_
    rw [b] at hL
    obtain ⟨k1, ⟨_, _, k2⟩, k3, k4⟩ := hL
    exact hq h' _ ⟨k1, x2, k2, k3⟩ k4
  · unfold leaving
    refine wpAny_bind (wpAny_noteFrame_againW hf x ?_)
    refine wpAny_landsW ⟨x1, x2, x3, x⟩ fun h' hfl U => ?_
    obtain ⟨k1, k2, ⟨_, _, k3⟩, k4⟩ := hfl
    exact hq h' _ ⟨k1, k2, k3, k4⟩ U
  · exact wpAny_leaves_onW hfr hf ⟨x1, x2, x3, x⟩ fun h' k U => hq h' _ k U
theorem XAt.note {Q : Unit → Shared → Prop} (hfr : A.frames = some (env :: outer)) (hf : env.frame = some L) (x : XAt base (env :: outer) L ea s.heap)
    (hq : ∀ h' a0, Heap.HeldW base (env :: outer) ea (.ref 58) a0 L h' → s.heap.UpToSlots h' → Q () { s with heap := h' }) : wpAny M A (noteFrame (.ref ea) env) Q E s := by
  obtain ⟨x1, x2, x3, ⟨oe, vs, t, a, b, c, d, f⟩ | ⟨a0, x⟩ | ⟨a0, x⟩⟩ := x
  · unfold noteFrame
    simp only [hf]
    refine wpAny_bind (wpAny_field a c d ?_)
    rw [if_neg (by decide)]
    refine wpAny_entryW hfr x3 hf a x1 x2 c (Array.getElem?_eq_some_iff.mp d).1 f fun h' hL => ?_
    rw [b] at hL
    obtain ⟨k1, k2, k3, k4⟩ := hL
    exact hq h' _ ⟨k1, x2, k2, k3⟩ k4
  · exact wpAny_noteFrame_againW hf x (hq s.heap a0 ⟨x1, x2, x3, x⟩ (.refl _))
  · exact wpAny_looks_onW hfr hf ⟨x1, x2, x3, x⟩ fun h' k U => hq h' _ k U
-- the flight is set anew
theorem flight_any {cls a0 fl : Value} {fr : Option Addr} {Q : Unit → Shared → Prop} (hkb : base.StaysIn s.heap) (hl : s.heap.FunFrames base outer) (ht : s.heap.TracedAtW base ea cls a0 fl)
    (h : ∀ h', base.StaysIn h' → h'.FunFrames base outer → h'.TracedAtW base ea cls a0 (fr.elim Value.none fun f => rawInt f) → s.heap.UpToSlots h' → Q () { s with heap := h' }) :
    wpAny M A (setFlight (.ref ea) fr) Q E s := by
  obtain ⟨oe, vs, T, oT, ts, he, hcls, hd, h1, hnT, hTe, hT, hdT, h3⟩ := ht
  have hsz3 : 3 < ts.size := (Array.getElem?_eq_some_iff.mp h3).1
  have other : ∀ b, b ≠ T → (s.heap.update T (Obj.mapFields (·.setIfInBounds 3 (fr.elim Value.none fun f => rawInt f)))).get? b = s.heap.get? b :=
    fun b hb => Heap.get?_update_other _ _ (Ne.symm hb)
  have noRecord : ∀ b o, s.heap.get? b = some o → (∀ vs, o.data ≠ .fields vs) → b ≠ T := fun b o hb hnf q => by
    rw [q, hT] at hb; injection hb with hb; subst hb; exact hnf ts hdT
  unfold setFlight
  refine wpAny_bind (wpAny_field he hd h1 ?_)
  rw [if_pos (show (Value.ref T != Value.none) = true from by simp)]
  refine wpAny_setField hT hdT hsz3 (h _ (fun b o hbo => (other b fun q => by rw [q, hnT] at hbo; cases hbo).trans (hkb b o hbo))
    (hl.of_keeps fun b o hb hnf => ⟨o, (other b (noRecord b o hb hnf)).trans hb, rfl⟩) ?_ fun b o hb hnf => ⟨o.slots, (other b (noRecord b o hb hnf)).trans hb⟩)
  exact ⟨oe, vs, T, _, _, (other ea (Ne.symm hTe)).trans he, hcls, hd, h1, hnT, hTe, Heap.get?_update_self _ hT (Obj.isFreed_of_fields (Obj.data_mapFields hdT _)), Obj.data_mapFields hdT _, by simp [hsz3]⟩
-- back in the frame that the loop stands in
theorem XAt.back {a0 : Value} (hf : env.frame = some L) (x : Heap.HeldW base (env :: outer) ea (.ref 58) a0 L s.heap) (hq : ∀ h', XAt base (env :: outer) L ea h' → s.heap.UpToSlots h' → E (.ref ea) { s with heap := h' }) : cameBackBy M A env E (.ref ea) s := by
  obtain ⟨x1, x2, x3, x4⟩ := x
  have x4' := x4
  obtain ⟨oe, vs, T, oT, ts, he, hcls, hd, h1, hnT, hTe, hT, hdT, h3⟩ := x4'
  unfold cameBackBy
  refine wpAny_bind (wpAny_field he hd h1 ?_)
  rw [if_neg (by simp), hf]
  exact flight_any x1 x3 x4 fun h' k1 k2 k3 k4 => hq h' ⟨k1, x2, k2, .inr (.inl ⟨a0, k3⟩)⟩ k4
end

-- the frames behind
noncomputable def FrsAt (base : Heap) (φ : Phi) (h : Heap) (outer : List Env) : Prop :=
  ∀ env ∈ outer, env.scope.kind ≠ .module ∧ ∃ L o es n, env.frame = some L ∧ base.get? L = none ∧ h.get? L = some o ∧ o.data = .dict es n ∧ ∀ p ∈ φ, p.2 ≠ L
noncomputable def Apart (L : Addr) (outer : List Env) : Prop := ∀ env ∈ outer, env.frame ≠ some L
-- the frames behind keep what they hold
noncomputable def KeepF (l : List Env) (h h' : Heap) : Prop := ∀ env ∈ l, ∀ L o, env.frame = some L → h.get? L = some o → (∀ vs, o.data ≠ .fields vs) → ∃ sl, h'.get? L = some { o with slots := sl }
theorem KeepF.up {l : List Env} {h h' h'' : Heap} (x : KeepF l h h') (y : h'.UpToSlots h'') : KeepF l h h'' := fun env he L o a b c => by
  obtain ⟨sl, d⟩ := x env he L o a b c
  obtain ⟨sl', e⟩ := y _ _ d c
  exact ⟨sl', e⟩
theorem KeepF.grow {l : List Env} {h h' h'' : Heap} (y : ∀ b o, h.get? b = some o → h'.get? b = some o) (x : KeepF l h' h'') : KeepF l h h'' := fun env he L o a b c => x env he L o a (y _ _ b) c
theorem FrsAt.fun {base : Heap} {φ : Phi} {h : Heap} : ∀ {outer : List Env}, FrsAt base φ h outer → h.FunFrames base outer
  | [], _ => trivial
  | env :: r, x => by
    obtain ⟨a, L, o, es, n, b, c, d, e, f⟩ := x env (.head _)
    exact ⟨a, ⟨L, o, b, c, d, fun vs q => by rw [e] at q; cases q⟩, FrsAt.fun fun y hy => x y (.tail _ hy)⟩
section
variable {G : Base} {f : Fx} {n : Nat} {base : Heap} {outer : List Env}
theorem FrsAt.stepL {φ φ' : Phi} {s s' : Shared} {L : Addr} (x : FrsAt base φ s.heap outer) (ap : Apart L outer) (y : StepL L φ φ' s s') : FrsAt base φ' s'.heap outer := by
  intro env he
  obtain ⟨a, L', o, es, m, b, c, d, e, g⟩ := x env he
  refine ⟨a, L', o, es, m, b, c, y.ev _ _ d g (fun q => ap env he (by rw [b, q])), e, fun p hp q => ?_⟩
  rcases y.fresh p hp with h | h
  · exact g p h q
  · rw [q, d] at h; cases h
theorem FrsAt.step {φ φ' : Phi} {s s' : Shared} (x : FrsAt base φ s.heap outer) (y : Step φ φ' s s') : FrsAt base φ' s'.heap outer := by
  intro env he
  obtain ⟨a, L', o, es, m, b, c, d, e, g⟩ := x env he
  refine ⟨a, L', o, es, m, b, c, y.ev _ _ d g, e, fun p hp q => ?_⟩
  rcases y.fresh p hp with h | h
  · exact g p h q
  · rw [q, d] at h; cases h
theorem FrsAt.grow {φ : Phi} {h h' : Heap} (x : FrsAt base φ h outer) (k : ∀ b o, h.get? b = some o → h'.get? b = some o) : FrsAt base φ h' outer := by
  intro env he
  obtain ⟨a, L', o, es, m, b, c, d, e, g⟩ := x env he
  exact ⟨a, L', o, es, m, b, c, k _ _ d, e, g⟩
theorem FrsAt.push {φ : Phi} {η : H} {L : Addr} {loc : Loc} {s : Shared} (hb : ∀ b o, base.get? b = some o → G.fz b o) (ok : f.Ok) (x : FrsAt base φ s.heap outer) (S : SR G f φ η L loc s) : FrsAt base φ s.heap (f.env L :: outer) := by
  intro env he
  rcases List.mem_cons.mp he with rfl | he
  · obtain ⟨o, es, ep, ho, hd⟩ := S.alive
    refine ⟨by show f.cs.kind ≠ _; rw [ok.kind]; decide, L, o, es, ep, rfl, ?_, ho, hd, S.out⟩
    cases q : base.get? L with
    | none => rfl
    | some o => exact absurd (hb _ _ q) (S.outF o)
  · exact x env he

theorem FrsAt.keepL {φ φ' : Phi} {s s' : Shared} {L : Addr} {h'' : Heap} (x : FrsAt base φ s.heap outer) (ap : Apart L outer) (y : StepL L φ φ' s s') (z : KeepF outer s'.heap h'') : KeepF outer s.heap h'' := by
  intro env he L' o a b c
  obtain ⟨_, L2, o2, _, _, b2, _, _, _, g⟩ := x env he
  obtain rfl : L' = L2 := Option.some.inj (a.symm.trans b2)
  exact z env he L' o a (y.ev _ _ b g fun q => ap env he (by rw [a, q])) c
theorem FrsAt.keep {φ φ' : Phi} {s s' : Shared} {h'' : Heap} (x : FrsAt base φ s.heap outer) (y : Step φ φ' s s') (z : KeepF outer s'.heap h'') : KeepF outer s.heap h'' := by
  intro env he L' o a b c
  obtain ⟨_, L2, o2, _, _, b2, _, _, _, g⟩ := x env he
  obtain rfl : L' = L2 := Option.some.inj (a.symm.trans b2)
  exact z env he L' o a (y.ev _ _ b g) c
-- what a raising statement comes to
noncomputable def RX (G : Base) (base : Heap) (l : List Env) (L : Addr) (kx : Bool) (s : Shared) (e : Value) (s' : Shared) : Prop :=
  kx = true ∧ ∃ ea, e = .ref ea ∧ XAt base l L ea s'.heap ∧ s'.gens = s.gens ∧ s'.drawn = s.drawn ∧ s'.os = s.os ∧ KeepF l.tail s.heap s'.heap
noncomputable def SSX (base : Heap) (outer : List Env) (kx : Bool) (G : Base) (f : Fx) (n : Nat) (m : XS) (st : Stmt) : Prop :=
  ∀ A L φ η loc s kn kr kb kc, Room A n → A.frames = some (f.env L :: outer) → FrsAt base φ s.heap outer → Apart L outer → SR G f φ η L loc s → m loc η kn kr kb kc = true →
    wpAny G.M A (exec st (f.env L)) (PostS G f L φ s kn kr kb kc) (RX G base (f.env L :: outer) L kx s) s
noncomputable def BSX (base : Heap) (outer : List Env) (kx : Bool) (G : Base) (f : Fx) (n : Nat) (m : XS) (sts : List Stmt) : Prop :=
  ∀ A L φ η loc s kn kr kb kc, Room A n → A.frames = some (f.env L :: outer) → FrsAt base φ s.heap outer → Apart L outer → SR G f φ η L loc s → m loc η kn kr kb kc = true →
    wpAny G.M A (execs sts (f.env L)) (PostS G f L φ s kn kr kb kc) (RX G base (f.env L :: outer) L kx s) s
variable {kx : Bool}
theorem SSX.of {m : XS} {st : Stmt} (x : SS G f n m st) : SSX base outer kx G f n m st := fun A L φ η loc s kn kr kb kc hA _ _ _ S h => wpAny_mono (x A L φ η loc s kn kr kb kc hA S h) (fun _ _ z => z) fun _ _ z => z.elim
theorem BSX.of {m : XS} {sts : List Stmt} (x : BS G f n m sts) : BSX base outer kx G f n m sts := fun A L φ η loc s kn kr kb kc hA _ _ _ S h => wpAny_mono (x A L φ η loc s kn kr kb kc hA S h) (fun _ _ z => z) fun _ _ z => z.elim
theorem RX.from {env : Env} {L : Addr} {φ φ' : Phi} {s s' s'' : Shared} {e : Value} (r : RX G base (env :: outer) L kx s' e s'') (x : StepL L φ φ' s s') (hF : FrsAt base φ s.heap outer) (ap : Apart L outer) : RX G base (env :: outer) L kx s e s'' := by
  obtain ⟨a, ea, b, c, d, e', g, k⟩ := r
  exact ⟨a, ea, b, c, d.trans x.gens, e'.trans x.drawn, g.trans x.os, hF.keepL ap x k⟩
theorem bsx_cons {m₁ m₂ : XS} {st : Stmt} {r : List Stmt} (h₁ : SSX base outer kx G f n m₁ st) (h₂ : BSX base outer kx G f n m₂ r) : BSX base outer kx G f n (sseq m₁ m₂) (st :: r) := by
  intro A L φ η loc s kn kr kb kc hA hfr hF ap S h
  refine wpAny_execs_cons (wpAny_mono (h₁ A L φ η loc s _ kr kb kc hA hfr hF ap S h) (fun fl s' x => ?_) fun _ _ z => z)
  obtain ⟨φ', η', st1, y⟩ := x
  cases fl with
  | next =>
    obtain ⟨loc', S', k⟩ := y
    exact wpAny_mono (h₂ A L φ' η' loc' s' kn kr kb kc hA hfr (hF.stepL ap st1) ap S' k) (fun fl s'' z => PostS.from st1 S S' z) fun _ _ z => z.from st1 hF ap
  | ret u => exact ⟨φ', η', st1, y⟩
  | brk => exact ⟨φ', η', st1, y⟩
  | cont => exact ⟨φ', η', st1, y⟩
theorem bsx_one {m : XS} {st : Stmt} (h₁ : SSX base outer kx G f n m st) : BSX base outer kx G f n m [st] := by
  intro A L φ η loc s kn kr kb kc hA hfr hF ap S h
  refine wpAny_execs_cons (wpAny_mono (h₁ A L φ η loc s kn kr kb kc hA hfr hF ap S h) (fun fl s' x => ?_) fun _ _ z => z)
  cases fl with
  | next => exact wpAny_execs_nil x
  | ret u => exact x
  | brk => exact x
  | cont => exact x
theorem ssx_if {c : XE} {a b : XS} {e : Expr} {body orelse : List Stmt} {pos : Pos} (h₁ : TS G f n c e) (h₂ : BSX base outer kx G f n a body) (h₃ : BSX base outer kx G f n b orelse) : SSX base outer kx G f n (sif c a b) (.If e body orelse pos) := by
  intro A L φ η loc s kn kr kb kc hA hfr hF ap S h
  refine wpAny_If (wpAny_mono (h₁ A L φ η loc s (fun t h => bcase t (a loc h kn kr kb kc) (b loc h kn kr kb kc)) hA S h) (fun t s1 x => ?_) fun _ _ z => z.elim)
  obtain ⟨η1, φ1, k, st, r1⟩ := x
  have S1 := S.step st r1
  cases t with
  | true => exact wpAny_mono (h₂ A L φ1 η1 loc s1 kn kr kb kc hA hfr (hF.step st) ap S1 k) (fun fl s'' z => PostS.from st.l S S1 z) fun _ _ z => z.from st.l hF ap
  | false => exact wpAny_mono (h₃ A L φ1 η1 loc s1 kn kr kb kc hA hfr (hF.step st) ap S1 k) (fun fl s'' z => PostS.from st.l S S1 z) fun _ _ z => z.from st.l hF ap

theorem raise_made {A : Around} {E : Value → Shared → Prop} {env : Env} {s : Shared} {x : Sem Value} {nm q : Str} {N : Addr} {bs : List Value} {hdct : Bool} {sn : List Str} {sub : List Value} {ab : Bool} {col : Option Bool} {dd : Option Addr} {k0 k1 k2 k3 k5 : Option Value} {Q : Flow → Shared → Prop} (hh : A.handled = none)
    (h : wpAny G.M A x (fun v s₁ => ∃ e d vs sl, v = .ref e ∧ s₁.heap.get? 58 = some (excClassObj nm q 58 N bs bm58 hdct sn sub ab col dd k0 k1 k2 k3 k5 "Exception.__new__") ∧
      s₁.heap.get? e = some ⟨.ref 58, d, .fields vs, sl⟩ ∧ vs[1]? = some .none ∧ E (.ref e) s₁) E s) :
    wpAny G.M A (raiseStmt env (some x) none) Q E s := by
  have hcB : (Value.ref 58 :: bm58).contains (.type "BaseException") = true := by decide
  unfold raiseStmt
  refine wpAny_bind (wpAny_mono h (fun v s₁ h₁ => ?_) fun _ _ x => x)
  obtain ⟨e, dt, vs, sl, rfl, hC, he, hv1, hE⟩ := h₁
  obtain ⟨hp, g, d, tk, os⟩ := s₁
  dsimp only at hC he
  repeat (first | with_reducible refine wpAny_loadPart_at he ?_ | with_reducible refine wpAny_loadPart_at hC ?_ | (with_reducible refine wpAny_isSubtype_exc hC ?_; rw [hcB]) | (refine wpAny_bind (wpAny_field he rfl hv1 ?_)) | wp_step)
  exact wpAny_raiseNew_none hh hE
-- raise BadSquare(e)
theorem ssx_raise (B : Own G) (hmE : G.mg "Exception" = none) (hbE : G.mb "Exception" = bootBuiltins "Exception") (hb : ∀ b o, base.get? b = some o → G.fz b o) (ok : f.Ok) {m : XE} {e : Expr} {np cpos pos : Pos}
    (hx : f.cs.names.lookup ("BadSquare" : Str) = some .globalImplicit) (h₁ : ES G f (n + 2) m e) (he : ∀ env, starEach [e] env = [(false, eval e env)] := by intro _; rfl) :
    SSX base outer kx G f (n + 2) (sraiseX kx m) (.Raise (some (.Call (.Name "BadSquare" np) [e] [] cpos)) none pos) := by
  intro A L φ η loc s kn kr kb kc hA hfr hF ap S h
  obtain ⟨nm, q, N, bs, hdct, sn, sub, ab, col, dd, k0, k1, k2, k3, k5, hl⟩ := cls58 G.w
  rw [arm_exec_Raise]
  refine wpAny_bind (wpAny_standAt (raise_made hA.handled (wpAny_bind (wpAny_mono (Q := fun v s₁ => ∃ e d vs sl, v = .ref e ∧ s₁.heap.get? 58 = some (excClassObj nm q 58 N bs bm58 hdct sn sub ab col dd k0 k1 k2 k3 k5 "Exception.__new__") ∧
      s₁.heap.get? e = some ⟨.ref 58, d, .fields vs, sl⟩ ∧ vs[1]? = some .none ∧ RX G base (f.env L :: outer) L kx s (.ref e) s₁) ?_ (fun v s₃ h₃ => wpAny_bind (wpAny_standAt (wpAny_pure h₃))) fun _ _ x => x))))
  refine wpAny_Call_NameR (Name_function_global (env := f.env L) ok.kind hx (loadGlobal_global (env := f.env L) (G.g.keeps S.hr.keep) (mg_BadSquare B) ?_) (by decide))
  refine callWith_K (h₀ := G.h₀) G.X (by rw [B.K]; kernel_rfl) (he := he _) (hplain := by rfl) ?_
  have h' : (econs m enil) loc η (fun vs _ => match vs with | [v] => asInt v (fun _ => kx) | _ => false) = true := h
  refine wpAny_mono ((ls_cons h₁ ls_nil (he := he)) cpos A L φ η loc s _ hA S h') (fun us s' y => ?_) fun _ _ z => z.elim
  obtain ⟨vs, ζ, ψ, b, c, d, e'⟩ := y
  have S' := S.step d e'
  have X' : G.K.In s'.heap := fun b o q => e'.keep b o (G.X b o q)
  refine ⟨X', ?_⟩
  rcases vs with _ | ⟨v, _ | ⟨_, _⟩⟩ <;> first | cases b | skip
  have b : asInt v (fun _ => kx) = true := b
  obtain ⟨i, rfl, hkx⟩ := asInt_of b
  obtain ⟨u, r, rfl, hu, hr⟩ := c
  obtain rfl : r = [] := hr
  refine call58 B hmE hbE (by have := hA.depth; (first | lia | omega)) e'.keep fun h2 ea tk x => ?_
  have X2 : (K39 G.w).In h2 := fun b o q => x.keeps _ _ (e'.keep _ _ (G.X _ _ (by rw [B.K]; exact q)))
  have hl2 := X2 _ _ hl
  obtain ⟨x1, x2, ⟨oc, odd, oda, osl⟩, ws, t, a1, a2, a3, a4, a5, a6⟩ := x
  dsimp only at a2 a3
  subst a2 a3
  refine ⟨ea, _, ws, _, rfl, hl2, a1, a4, hkx, ea, rfl, ?_, d.gens, d.drawn, d.os, hF.keep d fun env he L o _ b _ => ⟨o.slots, x1 _ _ b⟩⟩
  have F' := (hF.step d).push hb ok S'
  refine ⟨fun b o q => x1 _ _ (e'.frz _ _ (hb _ _ q)), ?_, (F'.grow x1).fun, .inl ⟨_, ws, t, a1, rfl, rfl, a4, a5⟩⟩
  cases q : base.get? ea with
  | none => rfl
  | some o => rw [e'.frz _ _ (hb _ _ q)] at x2; cases x2
theorem for_coreX {A : Around} {L it : Addr} {kn : KN} {kr : KR} {kb kc : KN} {tgt : Tgt} {target : Expr} {a : XS} {body : List Stmt} {P : Nat → Phi → Heap → Prop} {M : Nat → KN} {R : Result → Shared → Prop}
    (I : It G f A L it kn kr tgt a P M) (T : TgtOk G f tgt target) (hb : BSX base outer kx G f n a body) (hA : Room A n) {φ φ1 : Phi} {η η1 : H} {loc : Loc} {s₀ s1 : Shared} {k : Nat} (S₀ : SR G f φ η L loc s₀)
    (y : StepL L φ φ1 s₀ s1) (S1 : SR G f φ1 η1 L loc s1) (hP : P k φ1 s1.heap) (ht : ∀ p ∈ φ1, p.2 ≠ it) (hl : it ≠ L) (h0 : G.h₀.objs.size ≤ it) (hn : s₀.heap.get? it = none) (hm : M k loc η1 = true)
    (hfr : A.frames = some (f.env L :: outer)) (hF : FrsAt base φ s₀.heap outer) (ap : Apart L outer)
    (hR : ∀ fl s', PostS G f L φ s₀ kn kr kb kc fl s' → R (.ok fl) s')
    (hX : ∀ ea (s' : Shared) h' a0, Heap.HeldW base (f.env L :: outer) ea (.ref 58) a0 L h' → kx = true → s'.gens = s₀.gens → s'.drawn = s₀.drawn → s'.os = s₀.os → KeepF outer s₀.heap h' → R (.error (.ref ea)) { s' with heap := h' }) :
    codeAny G.M A (.forLoop target (.ref it) body [] (f.env L)) R s1 := by
  have hFz : ∀ o, ¬ G.fz it o := fun o e => by have := S₀.hr.frz _ _ e; rw [hn] at this; cases this
  refine codeAny_forLoop_any (fun k s' => ∃ φ' η' loc', StepL L φ φ' s₀ s' ∧ SR G f φ' η' L loc' s' ∧ P k φ' s'.heap ∧ (∀ p ∈ φ', p.2 ≠ it) ∧ M k loc' η' = true) ?_ k ⟨φ1, η1, loc, y, S1, hP, ht, hm⟩
  rintro k s' ⟨φ', η', loc', y, S, hP, ht, hm⟩
  refine wpAny_mono (I.next k φ' η' loc' s' S hP hm) (fun r s2 z => ?_) fun _ _ z => z.elim
  obtain ⟨h', tk, rfl, hx, z⟩ := z
  obtain ⟨S2, sto⟩ := S.iter (tk := tk) hx (I.alive hP) ht hl h0 hFz
  have y2 := y.iter (tk := tk) hx hn
  cases r with
  | none => exact wpAny_execs_nil (hR _ _ ⟨φ', η', y2, loc', S2, z⟩)
  | some u =>
    obtain ⟨v, k', rfl, hP', hv, hk⟩ := z
    refine wpAny_mono (T.go A it u _ _ (I.alive hP') ?_) (fun _ _ q => q) fun _ _ z => z.elim
    refine wpAny_mono (T.as A L φ' η' loc' _ v u _ _ hA.handled S2 (hv.st (List.prefix_refl _) sto) hk (fun loc3 s3 S3 y3 hk3 => ?_)) (fun _ _ q => q) fun _ _ z => z.elim
    have y23 := y2.trans y3 S₀ S2
    refine wpAny_mono (hb A L φ' η' loc3 s3 _ _ _ _ hA hfr (hF.stepL ap y23) ap S3 hk3) (fun fl s4 z => ?_) fun e s4 z => ?_
    · obtain ⟨φ4, η4, y4, z⟩ := z
      have y34 := y23.trans y4 S₀ S3
      have hit : ∀ o, h'.get? it = some o → s4.heap.get? it = some o := fun o e => y4.ev _ _ (y3.ev _ _ e ht hl) ht hl
      have hP4 : P k' φ4 s4.heap := I.stay hP' y4.pre ((y3.st S2).trans (y4.st S3)) hit
      have ht4 : ∀ p ∈ φ4, p.2 ≠ it := fun p hp q => by
        rcases y4.fresh p hp with h | h
        · exact ht p h q
        · obtain ⟨o, T, vs, ho, -⟩ := I.alive hP'
          have := y3.ev _ _ ho ht hl
          rw [q, this] at h; cases h
      cases fl with
      | next => obtain ⟨loc5, S5, k5⟩ := z; exact ⟨k', Nat.lt_succ_self _, φ4, η4, loc5, y34, S5, hP4, ht4, k5⟩
      | cont => obtain ⟨loc5, S5, k5⟩ := z; exact ⟨k', Nat.lt_succ_self _, φ4, η4, loc5, y34, S5, hP4, ht4, k5⟩
      | brk => exact hR _ _ ⟨φ4, η4, y34, z⟩
      | ret u => exact hR _ _ ⟨φ4, η4, y34, z⟩
    · obtain ⟨k1, ea, rfl, x, k2, k3, k4, k5⟩ := z
      exact XAt.note hfr rfl x fun h4 a0 hh U => hX ea s4 h4 a0 hh k1 (k2.trans y23.gens) (k3.trans y23.drawn) (k4.trans y23.os) (hF.keepL ap y23 (k5.up U))
theorem ssx_for {tgt : Tgt} {target : Expr} {m : XE} {iter : Expr} {a : XS} {body : List Stmt} {pos : Pos} (T : TgtOk G f tgt target) (h₁ : ES G f n m iter) (h₂ : BSX base outer kx G f n a body)
    (hs : ∀ env x, foldedSetIterable iter env x = pure x := by intro _ _; rfl) : SSX base outer kx G f n (sfor tgt m a) (.For target iter body [] pos) := by
  intro A L φ η loc s kn kr kb kc hA hfr hF ap S h
  refine wpAny_For (hs := hs _) (h₁.then (β := Unit) hA S h fun u v η1 φ1 s1 hk hv st S1 => ?_)
  have big := Nat.le_of_lt S1.big
  have fresh : s.heap.get? s1.heap.objs.size = none := by
    cases q : s.heap.get? s1.heap.objs.size with
    | none => rfl
    | some o =>
      exfalso
      by_cases c : ∀ p ∈ φ, p.2 ≠ s1.heap.objs.size
      · exact absurd (Heap.lt_size (st.ev _ _ q c)) (Nat.lt_irrefl _)
      · simp only [ne_eq, Classical.not_forall, Classical.not_not] at c
        obtain ⟨p, hp, e⟩ := c
        have := S1.hr.lt (st.pre.subset hp)
        rw [e] at this; exact absurd this (Nat.lt_irrefl _)
  have notIn : ∀ p ∈ φ1, p.2 ≠ s1.heap.objs.size := fun p hp q => by
    have := S1.hr.lt hp
    rw [q] at this; exact absurd this (Nat.lt_irrefl _)
  have notL : s1.heap.objs.size ≠ L := by
    obtain ⟨o, es, ep, ho, -⟩ := S1.alive
    exact Nat.ne_of_gt (Heap.lt_size ho)
  have hX : ∀ ea (s' : Shared) h' a0, Heap.HeldW base (f.env L :: outer) ea (.ref 58) a0 L h' → kx = true → s'.gens = s.gens → s'.drawn = s.drawn → s'.os = s.os → KeepF outer s.heap h' →
      cameBackBy G.M A (f.env L) (RX G base (f.env L :: outer) L kx s) (.ref ea) { s' with heap := h' } := fun ea s' h' a0 x k1 k2 k3 k4 k5 =>
    XAt.back (s := { s' with heap := h' }) (env := f.env L) rfl x fun h2 y U => ⟨k1, ea, rfl, y, k2, k3, k4, k5.up U⟩
  cases v with
  | ref nn =>
    obtain ⟨d, d', ej, rfl⟩ := hv
    have hk : objCase (getT η1 nn) (fun xs => forList tgt a kn kr nn (Nat.succ (lenV xs)) 0 loc η1) (fun ep kvs => forDict tgt a kn kr nn ep (Nat.succ (lenD kvs)) 0 loc η1) (fun _ => false) = true := hk
    rw [getT_eq] at hk
    rcases obj_of hk with ⟨xs, eo, q⟩ | ⟨ep, kvs, eo, q⟩ | ⟨fs, eo, q⟩
    · obtain ⟨rfl, us, hl, hu⟩ := S1.hr.list ej eo
      obtain ⟨S2, st2⟩ := S1.alloc0 { cls := .type "list_iterator", data := .fields #[.ref d, .int 0 0] }
      refine wpAny_pyIter_list hl.isList (for_coreX (it_list hA.handled (N := Nat.succ (lenV xs)) (nn := nn) (d := d)) T h₂ hA (kb := kb) (kc := kc) (k := Nat.succ (lenV xs)) S (st.trans st2 S.hr S1.hr).l S2 ⟨Nat.le_refl _, ?_, ej⟩ notIn notL big fresh ?_ hfr hF ap (fun fl s' z => z) hX)
      · rw [Nat.sub_self]; exact ⟨_, Heap.get?_push_size _ rfl, rfl, rfl⟩
      · rw [Nat.sub_self]; exact q
    · obtain ⟨rfl, xs, ho, hn, hd⟩ := S1.hr.dict ej eo
      have hlen := hd.length
      obtain ⟨S2, st2⟩ := S1.alloc0 { cls := .type "dict_keyiterator", data := .fields #[.ref d, .int 0 0, .int xs.length 0, .int ep 0] }
      rw [lenD_eq, hlen] at q
      refine iter_dictP (S1.hr.notMod ej) ho (for_coreX (it_dict hA.handled (N := xs.length) (nn := nn) (d := d) (ep := ep)) T h₂ hA (kb := kb) (kc := kc) (k := xs.length + 1) S (st.trans st2 S.hr S1.hr).l S2 ⟨Nat.le_refl _, ?_, ej⟩ notIn notL big fresh ?_ hfr hF ap (fun fl s' z => z) hX)
      · rw [Nat.sub_self]; exact ⟨_, Heap.get?_push_size _ rfl, rfl, rfl⟩
      · rw [Nat.sub_self]; exact q
    · cases q
  | tup vs =>
    obtain ⟨t, us, rfl, ht, hu⟩ := hv
    have hk : forTup tgt a kn kr vs loc η1 = true := hk
    obtain ⟨S2, st2⟩ := S1.alloc0 { cls := .type "tuple_iterator", data := .fields #[.ref t, .int 0 0] }
    refine iter_tuple ht (for_coreX (it_tup hA.handled (vs := vs) (us := us) (t := t)) T h₂ hA (kb := kb) (kc := kc) (k := vs.length) S (st.trans st2 S.hr S1.hr).l S2 ⟨Nat.le_refl _, ?_, ?_, hu.st st2.pre (S1.st st2)⟩ notIn notL big fresh ?_ hfr hF ap (fun fl s' z => z) hX)
    · rw [Nat.sub_self]; exact ⟨_, Heap.get?_push_size _ rfl, rfl, rfl⟩
    · obtain ⟨o, ho, r⟩ := ht
      exact ⟨o, Heap.get?_push_of_some _ ho, r⟩
    · rw [Nat.sub_self]; exact hk
  | range x y z =>
    obtain ⟨r, t, tu, tv, rfl, hr, hsm, hz⟩ := hv
    have hk : forRange tgt a kn kr z (rcount x y z) x loc η1 = true := hk
    obtain ⟨S2, st2⟩ := S1.alloc0 { cls := .type "range_iterator", data := .fields #[rawInt x, rawInt (Builtin.Range.rangeSize x y z), rawInt z] }
    have e0 : x + (((rcount x y z : Nat) : Int) - ((rcount x y z : Nat) : Int)) * z = x := by rw [Int.sub_self, Int.zero_mul, Int.add_zero]
    refine wpAny_pyIter_range hr hsm (for_coreX (it_range hA.handled (x := x) (N := rcount x y z) hz) T h₂ hA (kb := kb) (kc := kc) (k := rcount x y z) S (st.trans st2 S.hr S1.hr).l S2 ⟨Nat.le_refl _, ?_⟩ notIn notL big fresh ?_ hfr hF ap (fun fl s' z => z) hX)
    · rw [e0, rcount_eq hz]; exact Heap.get?_push_size _ rfl
    · rw [e0]; exact hk
  | _ => cases hk
end
end Kp
end
-- part KpX2
section
set_option autoImplicit false
set_option linter.unusedVariables false
set_option maxRecDepth 100000
set_option Elab.async false
namespace Kp
open PySem PySem.W PyProof.Rows PySem.Calls
section
variable {G : Base} {f : Fx} {n : Nat} {base : Heap} {outer : List Env} {kx : Bool}
noncomputable def FX (base : Heap) (outer : List Env) (kx : Bool) (s : Shared) (e : Value) (s' : Shared) : Prop :=
  kx = true ∧ ∃ ea a0, e = .ref ea ∧ Heap.FlyingW base outer ea (.ref 58) a0 s'.heap ∧ s'.gens = s.gens ∧ s'.drawn = s.drawn ∧ s'.os = s.os ∧ KeepF outer s.heap s'.heap
noncomputable def FSX (base : Heap) (outer : List Env) (kx : Bool) (G : Base) (n : Nat) (fn : Fn) (a : Addr) : Prop :=
  ∀ A φ η s vs us k, Room A n → A.frames = some outer → FrsAt base φ s.heap outer → HR G φ η s.heap → G.h₀.objs.size ≤ s.heap.objs.size → VsR φ s.heap vs us → fn vs η k = true →
    codeAny G.M A (.call (.ref a) ⟨us, []⟩) (fun r s' => match r with | .ok (.ret u) => Post G φ s k u s' | .ok _ => False | .error e => FX base outer kx s e s') s
theorem FSX.more {fn : Fn} {a : Addr} {n m : Nat} (x : FSX base outer kx G n fn a) (h : n ≤ m) : FSX base outer kx G m fn a := fun A φ η s vs us k hA => x A φ η s vs us k (hA.less h)
theorem FSX.wp {fn : Fn} {a : Addr} (x : FSX base outer kx G n fn a) {A : Around} {φ : Phi} {η : H} {s : Shared} {vs : List V} {us : List Value} {k : V → H → Bool} (hA : Room A n) (hfr : A.frames = some outer) (hF : FrsAt base φ s.heap outer) (r : HR G φ η s.heap) (z : G.h₀.objs.size ≤ s.heap.objs.size) (v : VsR φ s.heap vs us) (h : fn vs η k = true) :
    wpAny G.M A (call (.ref a) us) (Post G φ s k) (FX base outer kx s) s :=
  wpAny_call (codeAny_mono (x A φ η s vs us k hA hfr hF r z v h) fun r s' y => by
    rcases r with e | (u | _ | _ | _) <;> first | exact y | exact y.elim)
-- a call
theorem callx {fn : Fn} {a : Addr} {m : XE} {r : XL} {x : Str} {e : Expr} {es : List Expr} {p pos : Pos} (ok : f.Ok) (hb : ∀ b o, base.get? b = some o → G.fz b o) (hx : f.cs.names.lookup x = some .globalImplicit) (hd : (x == ("__debug__" : Str)) = false) (F : FnAt G x a) (hf : ∀ outer, FSX base outer kx G n fn a) (h₁ : LS G f n (econs m r) (e :: es))
    {A : Around} {L : Addr} {φ : Phi} {η : H} {loc : Loc} {s : Shared} {k : V → H → Bool} (hA : Room A n) (hfr : A.frames = some (f.env L :: outer)) (hF : FrsAt base φ s.heap outer) (S : SR G f φ η L loc s) (h : xcall fn (econs m r) loc η k = true)
    (he : ∀ env, starEach (e :: es) env = (false, eval e env) :: starEach es env := by intro _; rfl) :
    wpAny G.M A (eval (.Call (.Name x p) (e :: es) [] pos) (f.env L)) (Post G φ s k) (FX base (f.env L :: outer) kx s) s := by
  obtain ⟨o, fd, ho, hdat⟩ := F.obj
  refine wpAny_Call_NameR (Name_function_global (env := f.env L) ok.kind hx (loadGlobal_global (env := f.env L) (G.g.keeps S.hr.keep) F.name ?_) hd)
  refine callWith_function (o := o) (fd := fd) ?_
  have z := h₁ pos A L φ η loc s _ hA S h
  rw [he] at z ⊢
  refine evalArgs_plain (wpAny_mono z (fun us s' y => ?_) fun _ _ z => z.elim)
  obtain ⟨vs, ζ, ψ, b, c, d, e'⟩ := y
  refine ⟨⟨e'.keep _ _ ho, hdat⟩, ?_⟩
  have S' := S.step d e'
  refine wpAny_mono ((hf (f.env L :: outer)).wp hA hfr ((hF.step d).push hb ok S') e' (Nat.le_of_lt S'.big) c b) (fun u s'' y => Post.from d S.hr e' y) fun ex s'' y => ?_
  obtain ⟨k1, ea, a0, k2, k3, k4, k5, k6, k7⟩ := y
  exact ⟨k1, ea, a0, k2, k3, k4.trans d.gens, k5.trans d.drawn, k6.trans d.os, (hF.push hb ok S).keep d k7⟩
theorem FX.rx {L : Addr} {s s' : Shared} {e : Value} (x : FX base (f.env L :: outer) kx s e s') : RX G base (f.env L :: outer) L kx s e s' := by
  obtain ⟨k1, ea, a0, k2, ⟨k3, k7, k8, k9⟩, k4, k5, k6, k10⟩ := x
  exact ⟨k1, ea, k2, ⟨k3, k7, k8, .inr (.inr ⟨a0, k9⟩)⟩, k4, k5, k6, fun env he => k10 env (.tail _ he)⟩
theorem ssx_ret {fn : Fn} {a : Addr} {m : XE} {r : XL} {x : Str} {e : Expr} {es : List Expr} {p pos pos' : Pos} (ok : f.Ok) (hb : ∀ b o, base.get? b = some o → G.fz b o) (hx : f.cs.names.lookup x = some .globalImplicit) (hd : (x == ("__debug__" : Str)) = false) (F : FnAt G x a) (hf : ∀ outer, FSX base outer kx G n fn a) (h₁ : LS G f n (econs m r) (e :: es))
    (he : ∀ env, starEach (e :: es) env = (false, eval e env) :: starEach es env := by intro _; rfl) :
    SSX base outer kx G f n (sret (xcall fn (econs m r))) (.Return (some (.Call (.Name x p) (e :: es) [] pos)) pos') := by
  intro A L φ η loc s kn kr kb kc hA hfr hF ap S h
  refine wpAny_Return_some (wpAny_mono (callx ok hb hx hd F hf h₁ hA hfr hF S h (he := he)) (fun u s1 y => ?_) fun _ _ z => z.rx)
  obtain ⟨v, η1, φ1, hk, hv, st, r1⟩ := y
  exact ⟨φ1, η1, st.l, v, r1, hv, hk⟩
theorem FSX.of {fname : Str} {params : Arguments} {body : List Stmt} {doc pm ct : Value} {an : Option Addr} {fo : Obj} {na : Nat} {unbs : List V} {m : XS} (ok : f.Ok)
    (ho : G.h₀.get? f.a = some fo) (hd : fo.data = .func (fnX fname f.cn params body f.cs [] .none .none doc pm an f.ccd ct)) (hcd : G.h₀.CodeRec f.ccd f.cn)
    (hu : unbs.all (fun v => match v with | .unb => true | _ => false) = true) (hlen : na ≤ f.names.length) (hcell : ∀ x ∈ f.cs.names, x.2 ≠ .cell)
    (hbind : ∀ us : List Value, us.length = na → bindArgs (fnX fname f.cn params body f.cs [] .none .none doc pm an f.ccd ct) ⟨us, []⟩ = pure ((f.names.take na).zip us))
    (hz : ∀ b o, base.get? b = some o → G.fz b o) (hb : f.Ok → BSX base outer kx G f n m body) (hco : f.cs.isCoroutine = false := by rfl) (hgen : f.cs.isGenerator = false := by rfl) : FSX base outer kx G (n + 1) (fn na unbs m) f.a := by
  intro A φ η s vs us k hA hfr hF r big hv h
  obtain ⟨ha, hm⟩ := bc_of h
  have ha := Nat.eq_of_beq_eq_true ha
  rw [lenV_eq] at ha
  have hul : us.length = na := by rw [hv.length]; exact ha
  have hnd : (((f.names.take na).zip us).map (·.1)).Nodup := by
    have : ((f.names.take na).zip us).map (·.1) = f.names.take na := by
      rw [List.map_fst_zip]
      rw [List.length_take, hul]; (first | lia | omega)
    rw [this]
    exact ok.nd.sublist (List.take_sublist _ _)
  refine codeAny_call_def (fd := fnX fname f.cn params body f.cs [] .none .none doc pm an f.ccd ct) (body := body) (binds := (f.names.take na).zip us) (by have := hA.depth; (first | lia | omega)) (r.keep _ _ ho) hd
    (G.lim.keeps r.keep) (hcd.keeps r.keep) rfl (BindsTo.of_eq (hbind us hul)) hcell (fun x hx => ?_) (fun h₁ hns hk => ?_) hco hgen ok.kind
  · have : x.1 ∈ f.names.take na := (List.of_mem_zip hx).1
    exact ok.loc _ (List.mem_of_mem_take this)
  · have kp : ∀ b o, s.heap.get? b = some o → h₁.get? b = some o := hk
    have hA' : Room (A.deeper (f.env s.heap.objs.size)) n := ⟨by have := hA.depth; show A.depth + 1 + n < _; (first | lia | omega), by have := hA.units; show A.units + 3 + 8 * n + 16 < _; (first | lia | omega), hA.handled⟩
    have sto : St s.heap h₁ := fun b o e _ => kp b o e
    have S : SR G f φ η s.heap.objs.size (vs ++ unbs) { s with heap := h₁, toks := s.toks + ((f.names.take na).zip us).length } := by
      refine ⟨r.grow kp, big, fun p hp q => ?_, fun o e => absurd (Heap.lt_size (r.frz _ _ e)) (Nat.lt_irrefl _), _, hns, fun i nm hi hne => ?_⟩
      · have := r.lt hp
        rw [q] at this; exact absurd this (Nat.lt_irrefl _)
      · by_cases c : i < vs.length
        · have e1 : getV (vs ++ unbs) i = vs[i] := by rw [getV_eq, List.getElem?_append_left c, List.getElem?_eq_getElem c]; rfl
          rw [e1]
          obtain ⟨u, hu1, hu2⟩ := hv.get (List.getElem?_eq_getElem c)
          refine ⟨u, ?_, hu2.st (List.prefix_refl _) sto⟩
          rw [lookup_reverse _ _ hnd]
          refine zip_lookup _ us i nm u (ok.nd.sublist (List.take_sublist _ _)) ?_ hu1
          rw [List.getElem?_take, if_pos (by (first | lia | omega))]; exact hi
        · exfalso
          apply hne
          rw [getV_eq, List.getElem?_append_right (by (first | lia | omega))]
          cases q : unbs[i - vs.length]? with
          | none => rfl
          | some v =>
            have := List.all_eq_true.mp hu v (List.mem_of_getElem? q)
            cases v <;> first | rfl | cases this
    have ap : Apart s.heap.objs.size outer := fun env he q => by
      obtain ⟨_, L, o, _, _, b, _, c, _⟩ := hF env he
      rw [b] at q; cases q
      exact absurd (Heap.lt_size c) (Nat.lt_irrefl _)
    refine wpAny_mono (hb ok _ s.heap.objs.size φ η (vs ++ unbs) _ _ _ _ _ hA' (Around.frames_deeper hfr) (hF.grow kp) ap S hm) (fun fl s' z => ?_) fun e s' z => ?_
    rotate_left
    · obtain ⟨k1, ea, rfl, x, k2, k3, k4, k5⟩ := z
      exact XAt.leave (env := f.env s.heap.objs.size) (Around.frames_deeper hfr) rfl x fun h' a0 y U => ⟨k1, ea, a0, rfl, y, k2, k3, k4, KeepF.grow kp (k5.up U)⟩
    obtain ⟨φ', η', y, z⟩ := z
    have st : Step φ φ' s s' := by
      refine ⟨y.pre, fun b o e nn => y.ev b o (kp b o e) nn (Nat.ne_of_lt (Heap.lt_size e)), fun p hp => ?_, y.gens, y.drawn, y.os⟩
      rcases y.fresh p hp with q | q
      · exact .inl q
      · cases c : s.heap.get? p.2 with
        | none => exact .inr rfl
        | some o =>
          have : h₁.get? p.2 = none := q
          rw [kp _ _ c] at this; cases this
    cases fl with
    | next => obtain ⟨loc', S', hk'⟩ := z; exact ⟨.none, η', φ', hk', rfl, st, S'.hr⟩
    | ret u => obtain ⟨v, r', hv', hk'⟩ := z; exact ⟨v, η', φ', hk', hv', st, r'⟩
    | brk => obtain ⟨_, _, hk'⟩ := z; cases hk'
    | cont => obtain ⟨_, _, hk'⟩ := z; cases hk'
end
end Kp
end
-- part KpX3
section
set_option autoImplicit false
set_option linter.unusedVariables false
set_option maxRecDepth 100000
set_option Elab.async false
namespace Kp
open PySem PySem.W PyProof.Rows PySem.Calls
section
variable {G : Base}
theorem fsx_probe_kpk (B : Own G) (hmE : G.mg "Exception" = none) (hbE : G.mb "Exception" = bootBuiltins "Exception") {base : Heap} {kx : Bool} (hz : ∀ b o, base.get? b = some o → G.fz b o) (outer : List Env) : FSX base outer kx G 3 (f_probe_kpkX kx) 158 := by
  refine FSX.of (G := G) (f := Fx.mk "probe_kpk" ?cs 158 (.ref 157) ["geo", "base", "side", "strong", "pawn", "weak", "square"]) (n := 2) (fo := ?fo) (fname := ?p0) (params := ?p1) (body := ?p2) (doc := ?p3) (pm := ?p4) (ct := ?p5) (an := ?p6) ?ok (B.at ?hl) ?hd ?hcd ?hu ?hlen ?hcell ?hbind hz ?hb ?hco ?hgen
  case hl => exact rfl
  case hd => exact rfl
  case ok => exact ⟨rfl, by decide +kernel, by decide +kernel, by decide +kernel⟩
  case hcd => exact ⟨_, _, _, _, rfl, B.at (by rfl), rfl, rfl⟩
  case hu => rfl
  case hlen => decide
  case hcell => decide +kernel
  case hbind => intro us h; rcases us with _ | ⟨_, _ | ⟨_, _ | ⟨_, _ | ⟨_, _ | ⟨_, _ | ⟨_, _ | ⟨_, us⟩⟩⟩⟩⟩⟩⟩ <;> first | rfl | (exfalso; simp only [List.length_cons, List.length_nil] at h; (first | lia | omega))
  case hco => rfl
  case hgen => rfl
  case hb =>
    intro ok
    unfold b_probe_kpkX
    exact (bsx_cons (ssx_for (tgt_var ok rfl) (es_tup (ls_cons (es_loc ok rfl) (ls_cons (es_loc ok rfl) ls_nil)))
      (bsx_one (ssx_if (ts_not (ts_cmp2 (cm_le _) (cm_lt _) (es_int rfl) (es_loc ok rfl) (es_attr rfl (es_loc ok rfl))))
       (bsx_one (ssx_raise B hmE hbE hz ok (by kernel_rfl) (es_loc ok rfl)))
       (BSX.of bs_nil))))
     (bsx_cons (ssx_if (ts_not (ts_cmp2 (cm_le _) (cm_lt _) (es_attr rfl (es_loc ok rfl)) (es_loc ok rfl) (es_bin (op_sub _) (es_attr rfl (es_loc ok rfl)) (es_attr rfl (es_loc ok rfl)))))
      (bsx_one (ssx_raise B hmE hbE hz ok (by kernel_rfl) (es_loc ok rfl)))
      (BSX.of bs_nil))
     (bsx_cons (SSX.of (ss_if (ts_cmp (cm_ge _) (es_bin (op_mod _) (es_loc ok rfl) (es_attr rfl (es_loc ok rfl))) (es_call ok (by kernel_rfl) (by kernel_rfl) (at_pawn_files B) ((fs_pawn_files B).more (by decide)) (ls_cons (es_loc ok rfl) ls_nil)))
      (bs_cons (ss_set ok rfl (es_call ok (by kernel_rfl) (by kernel_rfl) (at_mirrored B) ((fs_mirrored B).more (by decide)) (ls_cons (es_loc ok rfl) (ls_cons (es_loc ok rfl) ls_nil))))
      (bs_cons (ss_set ok rfl (es_call ok (by kernel_rfl) (by kernel_rfl) (at_mirrored B) ((fs_mirrored B).more (by decide)) (ls_cons (es_loc ok rfl) (ls_cons (es_loc ok rfl) ls_nil))))
      (bs_one (ss_set ok rfl (es_call ok (by kernel_rfl) (by kernel_rfl) (at_mirrored B) ((fs_mirrored B).more (by decide)) (ls_cons (es_loc ok rfl) (ls_cons (es_loc ok rfl) ls_nil)))))))
      bs_nil))
     (bsx_one (SSX.of (ss_ret (es_sub (es_loc ok rfl) (es_call ok (by kernel_rfl) (by kernel_rfl) (at_kpk_index B) ((fs_kpk_index B).more (by decide)) (ls_cons (es_loc ok rfl) (ls_cons (es_loc ok rfl) (ls_cons (es_loc ok rfl) (ls_cons (es_loc ok rfl) (ls_cons (es_loc ok rfl) ls_nil)))))))))))))

theorem fsx_probe_for (B : Own G) (hmE : G.mg "Exception" = none) (hbE : G.mb "Exception" = bootBuiltins "Exception") {base : Heap} {kx : Bool} (hz : ∀ b o, base.get? b = some o → G.fz b o) (outer : List Env) : FSX base outer kx G 4 (f_probe_forX kx) 165 := by
  refine FSX.of (G := G) (f := Fx.mk "probe_for" ?cs 165 (.ref 164) ["geo", "base", "owner", "side", "strong", "pawn", "weak"]) (n := 3) (fo := ?fo) (fname := ?p0) (params := ?p1) (body := ?p2) (doc := ?p3) (pm := ?p4) (ct := ?p5) (an := ?p6) ?ok (B.at ?hl) ?hd ?hcd ?hu ?hlen ?hcell ?hbind hz ?hb ?hco ?hgen
  case hl => exact rfl
  case hd => exact rfl
  case ok => exact ⟨rfl, by decide +kernel, by decide +kernel, by decide +kernel⟩
  case hcd => exact ⟨_, _, _, _, rfl, B.at (by rfl), rfl, rfl⟩
  case hu => rfl
  case hlen => decide
  case hcell => decide +kernel
  case hbind => intro us h; rcases us with _ | ⟨_, _ | ⟨_, _ | ⟨_, _ | ⟨_, _ | ⟨_, _ | ⟨_, _ | ⟨_, _ | ⟨_, us⟩⟩⟩⟩⟩⟩⟩⟩ <;> first | rfl | (exfalso; simp only [List.length_cons, List.length_nil] at h; (first | lia | omega))
  case hco => rfl
  case hgen => rfl
  case hb =>
    intro ok
    unfold b_probe_forX
    exact (bsx_cons (ssx_if (ts_cmp (cm_eq _) (es_loc ok rfl) (es_glob ok (by kernel_rfl) (mg_WHITE B) (vr_WHITE B) (by kernel_rfl)))
      (bsx_one (ssx_ret ok hz (by kernel_rfl) (by kernel_rfl) (at_probe_kpk B) (fun o => (fsx_probe_kpk B hmE hbE hz o).more (by decide)) (ls_cons (es_loc ok rfl) (ls_cons (es_loc ok rfl) (ls_cons (es_loc ok rfl) (ls_cons (es_loc ok rfl) (ls_cons (es_loc ok rfl) (ls_cons (es_loc ok rfl) ls_nil))))))))
      (BSX.of bs_nil))
     (bsx_one (ssx_ret ok hz (by kernel_rfl) (by kernel_rfl) (at_probe_kpk B) (fun o => (fsx_probe_kpk B hmE hbE hz o).more (by decide)) (ls_cons (es_loc ok rfl) (ls_cons (es_loc ok rfl) (ls_cons (es_bin (op_sub _) (es_int rfl) (es_loc ok rfl)) (ls_cons (es_call ok (by kernel_rfl) (by kernel_rfl) (at_flipped B) ((fs_flipped B).more (by decide)) (ls_cons (es_loc ok rfl) (ls_cons (es_loc ok rfl) ls_nil))) (ls_cons (es_call ok (by kernel_rfl) (by kernel_rfl) (at_flipped B) ((fs_flipped B).more (by decide)) (ls_cons (es_loc ok rfl) (ls_cons (es_loc ok rfl) ls_nil))) (ls_cons (es_call ok (by kernel_rfl) (by kernel_rfl) (at_flipped B) ((fs_flipped B).more (by decide)) (ls_cons (es_loc ok rfl) (ls_cons (es_loc ok rfl) ls_nil))) ls_nil)))))))))

end
end Kp
end
-- part KpTry
section
set_option autoImplicit false
set_option linter.unusedVariables false
set_option maxRecDepth 100000
set_option Elab.async false
namespace Kp
open PySem PySem.W PyProof.Rows PySem.Calls

-- the ground laid anew: all that stands, but for the frame's own names, stays
noncomputable abbrev refz (G : Base) (h : Heap) (L : Addr) (n : Nat) : Base := { G with fz := fun b o => (hideAll h [L]).get? b = some o, ro := n }
section
variable {G : Base} {f : Fx} {n : Nat}
theorem OR.refz {h0 : Heap} {L : Addr} {k : Nat} {φ : Phi} {h : Heap} : ∀ {o : AO} {a d : Addr}, OR G φ h o a d → OR (refz G h0 L k) φ h o a d
  | .no, _, _, x => x
  | .list _, _, _, x => x
  | .inst _, _, _, x => x
  | .dict ep kvs, a, d, ⟨e, xs, ho, hn, hd⟩ => ⟨e, xs, ho, hn, by
      clear ho hn
      induction kvs generalizing xs with
      | nil => exact hd
      | cons p r ih =>
        obtain ⟨q, y, s, e1, e2, e3, e4, e5⟩ := hd
        exact ⟨q, y, s, e1, e2, e3, e4, ih s e5⟩⟩
theorem SR.refz {φ : Phi} {η : H} {L : Addr} {loc : Loc} {s : Shared} (S : SR G f φ η L loc s) : SR (refz G s.heap L η.n) f φ ⟨η.t, η.n, η.n⟩ L loc s := by
  refine ⟨⟨S.hr.keep, S.hr.len, fun i a d e => (S.hr.obj i a d e).refz, S.hr.above, S.hr.nd, fun b o e => of_hideAll _ e, fun i p e hi => ?_, rfl⟩, S.above, S.out, fun o e => ?_, S.fr⟩
  · have h1 := (List.getElem?_eq_some_iff.mp e).1
    have h2 := S.hr.len
    have hi : η.n ≤ i := hi
    (first | lia | omega)
  · have e : (hideAll s.heap [L]).get? L = some o := e
    rw [hideAll_none [L] (.head _)] at e; cases e
-- what is known holds on
theorem SR.back {φ : Phi} {η : H} {L : Addr} {loc : Loc} {s s' : Shared} {m : Str → Option Value} (S : SR G f φ η L loc s) (k : ∀ b o, (hideAll s.heap [L]).get? b = some o → s'.heap.get? b = some o) (g : s'.gens = s.gens) (d : s'.drawn = s.drawn) (o : s'.os = s.os)
    (ns : s'.heap.Ns L m) (hm : ∀ i nm, f.names[i]? = some nm → getV loc i ≠ .unb → ∃ u, m nm = some u ∧ VR φ s'.heap (getV loc i) u) : SR G f φ η L loc s' ∧ StepL L φ φ s s' := by
  have kp : ∀ b ob, b ≠ L → s.heap.get? b = some ob → s'.heap.get? b = some ob := fun b ob q e => k b ob (hideAll_get _ e (by simpa using q))
  have sto : St s.heap s'.heap := fun b ob e i => kp b ob (fun q => by
    subst q
    obtain ⟨o', es, ep, ho, hd⟩ := S.alive
    rw [e] at ho
    cases ho
    rcases i with ⟨-, _, _, i⟩ | ⟨-, _, i⟩ | i <;> rw [hd] at i <;> cases i) e
  refine ⟨⟨⟨fun b ob e => kp b ob (fun q => by subst q; exact absurd (Heap.lt_size e) (Nat.not_lt.mpr S.above)) (S.hr.keep b ob e), S.hr.len, fun i a c e => ?_, S.hr.above, S.hr.nd, fun b ob e => kp b ob (fun q => S.outF ob (q ▸ e)) (S.hr.frz b ob e), S.hr.aboveF, S.hr.ror⟩,
    S.above, S.out, S.outF, m, ns, hm⟩, List.prefix_refl _, fun b ob e _ q => kp b ob q e, fun _ h => .inl h, g, d, o⟩
  obtain ⟨ob, hob, -⟩ := (S.hr.obj i a c e).alive
  exact (S.hr.obj i a c e).st (List.prefix_refl _) sto ((kp c ob (S.out (a, c) (List.mem_of_getElem? e)) hob).trans hob.symm)

theorem lookup_of_mem {cs : Scope} {x : Str} : True := trivial

-- try: told = probe_for(..); except BadSquare: if not is_bad: return False
theorem ssx_try (B : Own G) (hmE : G.mg "Exception" = none) (hbE : G.mb "Exception" = bootBuiltins "Exception") (ok : f.Ok) (hl : 4 ≤ n) {base : Heap} {p p2 p3 p4 p5 p6 p7 p8 p9 : Pos} {k1 : Nat} {np cpos apos : Pos} {e : Expr} {es : List Expr}
    (hB : f.cs.names.lookup ("BadSquare" : Str) = some .globalImplicit) (hP : f.cs.names.lookup ("probe_for" : Str) = some .globalImplicit)
    (h20 : f.names[20]? = some ("is_bad" : Str)) (h21 : f.names[21]? = some ("told" : Str))
    (hgood : SS G f n (sset 21 (xcall f_probe_for tryArgs)) (.Assign [.Name "told" p] (.Call (.Name "probe_for" np) (e :: es) [] cpos) apos))
    (hargs : ∀ G' : Base, LS G' f n tryArgs (e :: es)) (he : ∀ env, starEach (e :: es) env = (false, eval e env) :: starEach es env := by intro _; rfl)
    (hs : ∀ env, swapsWith (.Call (.Name "probe_for" np) (e :: es) [] cpos) (some (.Name "told" p)) apos.line env = pure false := by intro _; rfl) :
    SSX base [] false G f n stry (.Try [.Assign [.Name "told" p] (.Call (.Name "probe_for" np) (e :: es) [] cpos) apos]
      [.ExceptHandler (some (.Name "BadSquare" p2)) none [.If (.UnaryOp .Not (.Name "is_bad" p3) p4) [.Return (some (.Constant (.bool false) k1 p5)) p6] [] p7] p8] [] [] p9) := by
  intro A L φ η loc s kn kr kb kc hA hfr hF ap S h
  obtain ⟨b, hb, hv⟩ := truthy_of (k := fun b => bcase b (bcase (xcall (f_probe_forX true) tryArgs loc (frzH η) fun _ _ => false) (kn loc η) false) (sset 21 (xcall f_probe_for tryArgs) loc η kn kr kb kc)) h
  refine wpAny_Try_except ?_
  cases b with
  | false =>
    refine wpAny_execs_cons (wpAny_mono (hgood A L φ η loc s kn kr kb kc hA S hb) (fun fl s' x => ?_) fun _ _ z => z.elim)
    cases fl with
    | next => exact wpAny_execs_nil (wpAny_execs_nil x)
    | ret u => exact x
    | brk => exact x
    | cont => exact x
  | true =>
    obtain ⟨hx, hk⟩ := bc_of hb
    have Sz := S.refz
    have hx' : xcall (f_probe_forX true) tryArgs loc ⟨η.t, η.n, η.n⟩ (fun _ _ => false) = true := by cases η; exact hx
    have Bz : Own (refz G s.heap L η.n) := ⟨B.K, B.C, B.fI⟩
    refine wpAny_execs_cons (wpAny_Assign_Name (hs := hs _) (wpAny_mono (callx (G := refz G s.heap L η.n) (base := hideAll s.heap [L]) (outer := []) (kx := true) ok (fun _ _ e => e) hP (by decide) (at_probe_for Bz)
      (fun o => (fsx_probe_for Bz hmE hbE (fun _ _ e => e) o).more hl) (hargs _) hA hfr (fun _ h => by cases h) Sz hx' (he := he)) (fun u s1 y => ?_) fun ex s1 y => ?_))
    · obtain ⟨_, _, _, q, _⟩ := y; cases q
    · obtain ⟨-, ea, a0, rfl, hfl, g1, g2, g3, g4⟩ := y
      -- noted, landed, handled
      refine wpAny_looks_onW (env := f.env L) (outer := []) hfr rfl hfl fun h2 hh2 U2 => ?_
      refine wpAny_landsW hh2 fun h3 hfl3 U3 => ?_
      have hk3 : (hideAll s.heap [L]).StaysIn h3 := hfl3.1
      have keep3 : ∀ b o, G.h₀.get? b = some o → h3.get? b = some o := fun b o e => hk3 b o (hideAll_get _ (S.hr.keep b o e) (by
        simp only [List.mem_singleton]
        rintro rfl
        exact absurd (Heap.lt_size e) (Nat.not_lt.mpr S.above)))
      obtain ⟨nm, q, N, bs, hdct, sn, sub, ab, col, dd, c0, c1, c2, c3, c5, hl58⟩ := cls58 G.w
      have hC : h3.get? 58 = some (excClassObj nm q 58 N bs bm58 hdct sn sub ab col dd c0 c1 c2 c3 c5 "Exception.__new__") := keep3 _ _ (G.X _ _ (by rw [B.K]; exact hl58))
      obtain ⟨ob, hob, hobc⟩ := hfl3.there
      refine wpAny_handleBy_cons (codeAny_handlers_test (Name_function_global (env := f.env L) ok.kind hB (loadGlobal_global (env := f.env L) (G.g.keeps keep3) (mg_BadSquare B) ?_) (by decide))) (by intro z; cases z)
      refine wpAny_excMatches_sub_self hC hob hobc (by decide) ?_
      refine codeAny_handlers_suite (lands_againW hfl3 fun h4 hfl4 U4 => ?_)
      have hk4 : (hideAll s.heap [L]).StaysIn h4 := hfl4.1
      -- the frame's names stand
      obtain ⟨m, hns, hm⟩ := S.fr
      have hns4 : h4.Ns L m := by
        obtain ⟨o, es', ep, ho, hd, r⟩ := hns
        obtain ⟨sl, e1⟩ := ((((g4.up U2).up U3).up U4) (f.env L) (.head _) L o rfl ho fun vs z => by rw [hd] at z; cases z)
        exact ⟨_, es', ep, e1, hd, r⟩
      have st4 : St s.heap h4 := fun b o e i => hk4 b o (hideAll_get _ e (by
        simp only [List.mem_singleton]
        rintro rfl
        obtain ⟨o', es', ep, ho, hd⟩ := S.alive
        rw [e] at ho
        cases ho
        rcases i with ⟨-, _, _, i⟩ | ⟨-, _, i⟩ | i <;> rw [hd] at i <;> cases i))
      obtain ⟨S4, y4⟩ := S.back (s' := { s1 with heap := h4 }) hk4 g1 g2 g3 hns4 fun i nm' e1 e2 => by
        obtain ⟨u, x1, x2⟩ := hm i nm' e1 e2
        exact ⟨u, x1, x2.st (List.prefix_refl _) st4⟩
      obtain ⟨m4, ns4, hm4⟩ := S4.fr
      have hu : getV loc 20 ≠ .unb := by rcases hv with z | ⟨i, z, -⟩ <;> rw [z] <;> intro q <;> cases q
      obtain ⟨u, e1, hvu⟩ := hm4 20 _ h20 hu
      have mem := List.mem_of_getElem? h20
      refine wpAny_execs_cons (wpAny_If ?_)
      show wpAny _ _ (PySem.isTrue (.Name "is_bad" p3) (f.env L) (eval (.Name "is_bad" p3) (f.env L)) >>= fun b => pure !b) _ _ _
      have hi : ∀ env w, PySem.isTrue (.Name "is_bad" p3) env w = (do let v ← w; standAt p3; holding [v] (PySem.truthy v)) := by intro _ _; with_unfolding_all rfl
      rw [hi]
      refine wpAny_bind (wpAny_bind (wpAny_Name (wpAny_loadName_local ok.kind (ok.loc _ mem) ns4 e1 ?_) (ok.dbg _ mem)))
      refine wpAny_bind (wpAny_standAt (wpAny_holding (wp_truthy hvu hv (wpAny_pure ?_))))
      exact wpAny_execs_nil (wpAny_execs_nil ⟨φ, η, y4, loc, S4, hk⟩)
end
end Kp
end
-- part KpChk
section
set_option autoImplicit false
set_option linter.unusedVariables false
namespace Kp
noncomputable section
noncomputable def allL (xs : List Nat) (f : Nat → Bool) : Bool := @List.rec Nat (fun _ => Bool) true (fun x _ ih => bcase (f x) ih false) xs
noncomputable def takeK (xs : List V) (tail : List V) : Nat → (List V → Bool) → Bool :=
  @List.rec V (fun _ => Nat → (List V → Bool) → Bool) (fun _ k => k tail) (fun x _ ih n k => @Nat.rec (fun _ => Bool) (k tail) (fun m _ => ih m fun ys => k (x :: ys)) n) xs
-- the same value, or nothing asked
noncomputable def veq (a b : V) : Bool :=
  @V.rec (fun _ => Bool) (fun _ => Bool) true
    (@V.rec (fun _ => Bool) (fun _ => Bool) false true (fun _ => false) (fun _ => false) (fun _ => false) (fun _ _ => false) (fun _ _ _ => false) false (fun _ _ _ _ => false) b)
    (fun x => @V.rec (fun _ => Bool) (fun _ => Bool) false false (fun y => bcase x y (bnt y)) (fun _ => false) (fun _ => false) (fun _ _ => false) (fun _ _ _ => false) false (fun _ _ _ _ => false) b)
    (fun x => @V.rec (fun _ => Bool) (fun _ => Bool) false false (fun _ => false) (fun y => ieq x y) (fun _ => false) (fun _ _ => false) (fun _ _ _ => false) false (fun _ _ _ _ => false) b)
    (fun x => @V.rec (fun _ => Bool) (fun _ => Bool) false false (fun _ => false) (fun _ => false) (fun y => Nat.beq x y) (fun _ _ => false) (fun _ _ _ => false) false (fun _ _ _ _ => false) b)
    (fun _ _ => false) (fun _ _ _ => false) false (fun _ _ _ _ => false) a
noncomputable def same (xs : List V) : Nat → List V → Bool :=
  @List.rec V (fun _ => Nat → List V → Bool) (fun n _ => @Nat.rec (fun _ => Bool) true (fun _ _ => false) n)
    (fun x _ ih n ys => @Nat.rec (fun _ => Bool) true (fun m _ => @List.rec V (fun _ => Bool) false (fun y r _ => bcase (veq x y) (ih m r) false) ys) n) xs
noncomputable def no2 : KN := fun _ _ => false
noncomputable def noR : KR := fun _ _ => false
-- a drawn placing, on the board: told, and then the law's own reckoning
noncomputable def b_Q : XS := sseq (sset (nat_lit 21) (xcall f_probe_kpk (econs (xloc (nat_lit 7)) (econs (xloc (nat_lit 8)) (econs (xloc (nat_lit 13)) (econs (xloc (nat_lit 14)) (econs (xloc (nat_lit 15)) (econs (xloc (nat_lit 16)) enil)))))))) b_loop_13
noncomputable def tail14 (sd st pw wk told : V) : List V := [.unb, sd, st, pw, wk, .unb, .unb, .unb, .unb, told, .unb, .unb, .unb, .unb]
noncomputable def one (l : Loc) (h : H) (sd st pw wk : Nat) : Bool := takeK l (tail14 (.int (.ofNat sd)) (.int (.ofNat st)) (.int (.ofNat pw)) (.int (.ofNat wk)) .unb) (nat_lit 12) fun l1 => b_Q l1 h (fun l' _ => same l1 (nat_lit 12) l') noR no2 no2
noncomputable def chk (ss ps : List Nat) : KN := fun l h => @H.rec (fun _ => Bool) (fun t n _ =>
  allL ss fun st => allL ps fun pw => allL ss fun wk => allL [(nat_lit 0), (nat_lit 1)] fun sd => one l ⟨t, n, n⟩ sd st pw wk) h
noncomputable def b_law_8' (c : Nat) : XS := (sset (nat_lit 10) (xlit (.int (.ofNat c))))
noncomputable def tuples : List V := [.tup [.int (.ofNat (nat_lit 2)), .int (.ofNat (nat_lit 3))], .tup [.int (.ofNat (nat_lit 2)), .int (.ofNat (nat_lit 4))], .tup [.int (.ofNat (nat_lit 3)), .int (.ofNat (nat_lit 3))], .tup [.int (.ofNat (nat_lit 2)), .int (.ofNat (nat_lit 5))]]
noncomputable def η₀ (xs : List V) : H := ⟨.node (.ob (.list xs)) .nil .nil, nat_lit 1, nat_lit 0⟩
noncomputable def η₁ (xs : List V) : H := ⟨.node (.ob (.list xs)) (.node (.ob (.list tuples)) .nil .nil) .nil, nat_lit 2, nat_lit 0⟩
noncomputable def l₀ : Loc := [.unb, .ref (nat_lit 0), .unb, .unb, .unb, .unb, .unb, .unb, .unb, .unb, .unb, .unb, .unb, .unb, .unb, .unb, .unb, .unb, .unb, .unb, .unb, .unb, .unb, .unb, .unb, .unb]
noncomputable def l₄ (fl rk sz : Nat) (lc db : Bool) : Loc := [.unb, .ref (nat_lit 0), .int (.ofNat fl), .int (.ofNat rk), .int (.ofNat sz), .bool lc, .bool db, .unb, .unb, .unb, .unb, .unb, .unb, .unb, .unb, .unb, .unb, .unb, .unb, .unb, .unb, .unb, .unb, .unb, .unb, .unb]
-- what the run's end tells, word for word
noncomputable def facts (P : List V → List V → Bool) : KN := fun l h =>
  asRef (getV l (nat_lit 7)) fun g => objCase (getT h g) (fun _ => false) (fun _ _ => false) fun fs =>
    objCase (getT h (nat_lit 0)) (P [.int (.ofNat (lenV l)), getV l (nat_lit 1), getV l (nat_lit 2), getV l (nat_lit 3), getV l (nat_lit 4), getV l (nat_lit 5), getV l (nat_lit 10), getV fs (nat_lit 0), getV fs (nat_lit 1), getV fs (nat_lit 2)]) (fun _ _ => false) (fun _ => false)
noncomputable def facts7 (P : List V → List V → Bool) : KN := fun l h => objCase (getT h (nat_lit 0)) (P [getV l (nat_lit 1), getV l (nat_lit 2)]) (fun _ _ => false) (fun _ => false)
noncomputable def b57 : XS := sseq b_law_5 (sseq b_law_6 b_law_7)
noncomputable def rest (c : Nat) : XS := sseq (b_law_8' c) (sseq b_law_9 (sseq b_law_10 b_law_11))
noncomputable def kn11 (ss ps : List Nat) (P : List V → List V → Bool) : KN := fun l h => bcase (same l (nat_lit 12) l) (bcase (chk ss ps l h) (facts P l h) false) false
noncomputable def kn7 (c : Nat) (ss ps : List Nat) (P P7 : List V → List V → Bool) : KN := fun l h => bcase (rest c l h (kn11 ss ps P) noR no2 no2) (facts7 P7 l h) false
noncomputable def run (fl rk sz : Nat) (lc db : Bool) (c : Nat) (ss ps : List Nat) (xs : List V) (P P7 : List V → List V → Bool) : Bool := b57 (l₄ fl rk sz lc db) (η₁ xs) (kn7 c ss ps P P7) noR no2 no2
noncomputable def ends (fl rk sz : Nat) (lc : Bool) (c : Nat) (xs : List V) (P P7 : List V → List V → Bool) : Bool :=
  bcase (P [.int (.ofNat (nat_lit 26)), .ref (nat_lit 0), .int (.ofNat fl), .int (.ofNat rk), .int (.ofNat sz), .bool lc, .int (.ofNat c), .int (.ofNat fl), .int (.ofNat rk), .int (.ofNat sz)] xs) (P7 [.ref (nat_lit 0), .int (.ofNat fl)] xs) false
end
end Kp
end
-- part KpEv
section
set_option autoImplicit false
set_option linter.unusedVariables false
namespace Kp

-- a combinator's value at a place
noncomputable def Ev (e : XE) (l : Loc) (h : H) (v : V) : Prop := ∀ k, e l h k = k v h
noncomputable def Evs (e : XL) (l : Loc) (h : H) (vs : List V) : Prop := ∀ k, e l h k = k vs h
section
variable {l : Loc} {h : H} {a b c : XE} {i j m : Int} {v w : V} {r : XL} {vs : List V}
theorem known_eq {v : V} (hv : v ≠ .unb) (k : V → Bool) : known v k = k v := by cases v <;> first | rfl | exact absurd rfl hv
theorem ev_lit : Ev (xlit v) l h v := fun _ => rfl
theorem ev_loc {i : Nat} (e : getV l i = v) (hv : v ≠ .unb) : Ev (xloc i) l h v := fun k => by
  show known (getV l i) (fun v => k v h) = _
  rw [e, known_eq hv]
theorem ev_int {i : Nat} {x : Int} (e : getV l i = .int x) : Ev (xloc i) l h (.int x) := ev_loc e (fun z => by cases z)
theorem ev_bool {i : Nat} {x : Bool} (e : getV l i = .bool x) : Ev (xloc i) l h (.bool x) := ev_loc e (fun z => by cases z)
theorem ev_ref {i : Nat} {x : Nat} (e : getV l i = .ref x) : Ev (xloc i) l h (.ref x) := ev_loc e (fun z => by cases z)
theorem ev_bin {o : Op} (ha : Ev a l h (.int i)) (hb : Ev b l h (.int j)) (ho : ∀ k, o i j k = k m) : Ev (xbin o a b) l h (.int m) := fun k => by
  show a l h _ = _
  rw [ha]
  show b l h _ = _
  rw [hb]
  exact ho _
theorem o_add {i j : Int} (k : Int → Bool) : oadd i j k = k (i + j) := by unfold oadd; rw [iadd_eq]
theorem o_sub {i j : Int} (k : Int → Bool) : osub i j k = k (i - j) := by unfold osub; rw [iadd_eq, ineg_eq, Int.sub_eq_add_neg]
theorem small_in {a : Int} {t : Bool} (h1 : a < 2 ^ 60) (h2 : -(2 ^ 60) ≤ a) : small a t false = t := by
  unfold small
  rw [ilt_eq, ilt_eq]
  have e1 : decide (a < .ofNat 1152921504606846976) = true := by simp only [decide_eq_true_eq, Int.ofNat_eq_natCast]; (first | lia | omega)
  have e2 : decide (Int.negSucc 1152921504606846976 < a) = true := by simp only [decide_eq_true_eq, Int.negSucc_eq]; (first | lia | omega)
  rw [e1, e2]; rfl
theorem o_mul {i j : Int} (h1 : i < 2 ^ 60) (h2 : -(2 ^ 60) ≤ i) (k : Int → Bool) : omul i j k = k (i * j) := by unfold omul; rw [small_in h1 h2, imul_eq]
theorem pos2_in {a b : Int} {f : Int → Bool} (h1 : 0 < b) (h2 : b ≤ 1000000) : pos2 a b f = f a := by
  obtain ⟨n, rfl⟩ := Int.eq_ofNat_of_zero_le (Int.le_of_lt h1)
  obtain ⟨n, rfl⟩ : ∃ m, n = m + 1 := ⟨n - 1, by (first | lia | omega)⟩
  show bcase (Nat.ble (n + 1) 1000000) (f a) false = _
  rw [show Nat.ble (n + 1) 1000000 = true from Nat.ble_eq_true_of_le (by (first | lia | omega))]; rfl
theorem o_div {i j : Int} (h1 : 0 < j) (h2 : j ≤ 1000000) (k : Int → Bool) : odiv i j k = k (i / j) := by unfold odiv; rw [pos2_in h1 h2, ifdiv_eq, Int.fdiv_eq_ediv_of_nonneg _ (by (first | lia | omega))]
theorem o_mod {i j : Int} (h1 : 0 < j) (h2 : j ≤ 1000000) (k : Int → Bool) : omod i j k = k (i % j) := by unfold omod; rw [pos2_in h1 h2, ifmod_eq, Int.fmod_eq_emod_of_nonneg _ (by (first | lia | omega))]
theorem ev_cmp {o : Cm} {t : Bool} (ha : Ev a l h (.int i)) (hb : Ev b l h (.int j)) (ht : o i j = t) : Ev (xcmp o a b) l h (.bool t) := fun k => by
  show a l h _ = _
  rw [ha]
  show b l h _ = _
  rw [hb, ← ht]; rfl
theorem ev_cmp2 {o p : Cm} {t : Bool} (ha : Ev a l h (.int i)) (hb : Ev b l h (.int j)) (hc : Ev c l h (.int m)) (ht : (o i j && p j m) = t) : Ev (xcmp2 o p a b c) l h (.bool t) := fun k => by
  show a l h _ = _
  rw [ha]
  show b l h _ = _
  rw [hb, ← ht]
  show bcase (o i j) (c l h _) _ = _
  cases o i j with
  | false => rfl
  | true => exact hc _
theorem ev_not {t u : Bool} (ha : Ev a l h (.bool t)) (ht : (!t) = u) : Ev (xnot a) l h (.bool u) := fun k => by
  show a l h _ = _
  rw [ha, ← ht, ← bnt_eq]; rfl
theorem ev_and {t u : Bool} (ha : Ev a l h (.bool t)) (hb : Ev b l h (.bool u)) : Ev (xand a b) l h (.bool (t && u)) := fun k => by
  show a l h _ = _
  rw [ha]
  cases t with
  | false => rfl
  | true => exact hb _
theorem ev_neg (ha : Ev a l h (.int i)) : Ev (xneg a) l h (.int (-i)) := fun k => by
  show a l h _ = _
  rw [ha, ← ineg_eq]; rfl
theorem ev_item {n j : Nat} {xs : List V} (ha : Ev a l h (.ref n)) (hb : Ev b l h (.int (j : Int))) (hn : h.t.get n = .list xs) (hx : xs[j]? = some v) (hv : v ≠ .unb) (hj : j ≤ 1000000) : Ev (xsub a b) l h v := fun k => by
  show a l h _ = _
  rw [ha]
  show b l h _ = _
  rw [hb]
  refine (sub_so (getS h n) _ _ _ _).trans ?_
  show objCase (getT h n) _ _ _ = _
  rw [show getT h n = .list xs from hn]
  show bcase (Nat.ble j 1000000) (known (getV xs j) _) false = _
  rw [show Nat.ble j 1000000 = true from Nat.ble_eq_true_of_le hj, getV_eq, hx]
  exact known_eq hv (fun v => k v h)
theorem ev_attr {n j : Nat} {fs : List V} (ha : Ev a l h (.ref n)) (hn : h.t.get n = .inst fs) (hx : getV fs j = v) (hv : v ≠ .unb) : Ev (xattr a j) l h v := fun k => by
  show a l h _ = _
  rw [ha]
  show objCase (getT h n) _ _ _ = _
  rw [show getT h n = .inst fs from hn]
  show known (getV fs j) (fun v => k v h) = _
  rw [hx]; exact known_eq hv (fun v => k v h)
theorem evs_nil : Evs enil l h [] := fun _ => rfl
theorem evs_cons (ha : Ev a l h v) (hr : Evs r l h vs) : Evs (econs a r) l h (v :: vs) := fun k => by
  show a l h _ = _
  rw [ha]
  show r l h _ = _
  rw [hr]
theorem ev_call {f : Fn} (hr : Evs r l h vs) (hf : ∀ k, f vs h k = k v h) : Ev (xcall f r) l h v := fun k => by
  show r l h _ = _
  rw [hr]; exact hf k
variable {kn : KN} {kr : KR} {kb kc : KN}
theorem run_set {n : Nat} (ha : Ev a l h v) : sset n a l h kn kr kb kc = kn (setV v l n) h := by
  show a l h _ = _
  rw [ha, setK_eq]
theorem run_ret (ha : Ev a l h v) : sret a l h kn kr kb kc = kr v h := ha _
theorem run_if {t : Bool} {s₁ s₂ : XS} (ha : Ev a l h (.bool t)) : sif a s₁ s₂ l h kn kr kb kc = bcase t (s₁ l h kn kr kb kc) (s₂ l h kn kr kb kc) := by
  show a l h _ = _
  rw [ha]; rfl
end

-- the board's record
structure Geo (h : H) (g : Nat) (fl rk sz : Int) : Prop where
  at_ : ∃ fs, h.t.get g = .inst fs ∧ getV fs 0 = .int fl ∧ getV fs 1 = .int rk ∧ getV fs 2 = .int sz
noncomputable def flip (fl rk x : Int) : Int := (rk - 1 - x / fl) * fl + x % fl
noncomputable def mir (fl x : Int) : Int := x - x % fl + fl - 1 - x % fl
section
variable {h : H} {g : Nat} {fl rk sz x : Int}
theorem run_flip (G : Geo h g fl rk sz) (hf : fl = 2 ∨ fl = 3) (h3 : 0 < rk) (h4 : rk ≤ 100) (h5 : -1000 ≤ x) (h6 : x ≤ 1000) (k : V → H → Bool) : f_flipped [.ref g, .int x] h k = k (.int (flip fl rk x)) h := by
  obtain ⟨fs, e, e0, e1, e2⟩ := G.at_
  have hd : -1000 ≤ x / fl ∧ x / fl ≤ 1000 := by rcases hf with rfl | rfl <;> (first | lia | omega)
  show b_flipped [.ref g, .int x, .unb] h (fun _ h => k .none h) k (fun _ _ => false) (fun _ _ => false) = _
  have f0 : ∀ l, getV l 0 = .ref g → Ev (xattr (xloc 0) 0) l h (.int fl) := fun l q => ev_attr (ev_ref q) e e0 (fun z => by cases z)
  have f1 : ∀ l, getV l 0 = .ref g → Ev (xattr (xloc 0) 1) l h (.int rk) := fun l q => ev_attr (ev_ref q) e e1 (fun z => by cases z)
  have s0 := run_set (h := h) (l := [.ref g, .int x, .unb]) (n := 2) (kn := fun l h => sret (xbin oadd (xbin omul (xbin osub (xbin osub (xattr (xloc 0) 1) (xlit (.int (.ofNat 1)))) (xloc 2)) (xattr (xloc 0) 0)) (xbin omod (xloc 1) (xattr (xloc 0) 0))) l h (fun _ h => k .none h) k (fun _ _ => false) (fun _ _ => false)) (kr := k) (kb := fun _ _ => false) (kc := fun _ _ => false)
    (ev_bin (ev_int (i := 1) rfl) (f0 _ rfl) (o_div (by (first | lia | omega)) (by (first | lia | omega))))
  refine s0.trans (run_ret (ev_bin (ev_bin (ev_bin (ev_bin (f1 _ rfl) ev_lit o_sub) (ev_int (i := 2) rfl) o_sub) (f0 _ rfl) (o_mul (by show rk - 1 - x / fl < _; (first | lia | omega)) (by show _ ≤ rk - 1 - x / fl; (first | lia | omega)))) (ev_bin (ev_int (i := 1) rfl) (f0 _ rfl) (o_mod (by (first | lia | omega)) (by (first | lia | omega)))) o_add))
theorem run_turn (hf : fl = 2 ∨ fl = 3) (h3 : 0 < rk) (h4 : rk ≤ 100) (h5 : -1000 ≤ x) (h6 : x ≤ 1000) (k : V → H → Bool) : f__law_turn [.int fl, .int rk, .int x] h k = k (.int (flip fl rk x)) h := by
  have hd : -1000 ≤ x / fl ∧ x / fl ≤ 1000 := by rcases hf with rfl | rfl <;> (first | lia | omega)
  have e : Ev (xbin oadd (xbin omul (xbin osub (xbin osub (xloc 1) (xlit (.int (.ofNat 1)))) (xbin odiv (xloc 2) (xloc 0))) (xloc 0)) (xbin omod (xloc 2) (xloc 0))) [.int fl, .int rk, .int x] h (.int ((rk - Int.ofNat 1 - x / fl) * fl + x % fl)) :=
    ev_bin (ev_bin (ev_bin (ev_bin (ev_int (i := 1) rfl) ev_lit o_sub) (ev_bin (ev_int (i := 2) rfl) (ev_int (i := 0) rfl) (o_div (by (first | lia | omega)) (by (first | lia | omega)))) o_sub) (ev_int (i := 0) rfl) (o_mul (by show rk - 1 - x / fl < _; (first | lia | omega)) (by show _ ≤ rk - 1 - x / fl; (first | lia | omega)))) (ev_bin (ev_int (i := 2) rfl) (ev_int (i := 0) rfl) (o_mod (by (first | lia | omega)) (by (first | lia | omega)))) o_add
  have e2 : flip fl rk x = (rk - Int.ofNat 1 - x / fl) * fl + x % fl := rfl
  rw [e2]
  exact e k
theorem run_mir (hf : fl = 2 ∨ fl = 3) (k : V → H → Bool) : f__law_mirror [.int fl, .int x] h k = k (.int (mir fl x)) h := by
  have e : Ev (xbin osub (xbin osub (xbin oadd (xbin osub (xloc 1) (xbin omod (xloc 1) (xloc 0))) (xloc 0)) (xlit (.int (.ofNat 1)))) (xbin omod (xloc 1) (xloc 0))) [.int fl, .int x] h (.int (x - x % fl + fl - Int.ofNat 1 - x % fl)) :=
    ev_bin (ev_bin (ev_bin (ev_bin (ev_int (i := 1) rfl) (ev_bin (ev_int (i := 1) rfl) (ev_int (i := 0) rfl) (o_mod (by (first | lia | omega)) (by (first | lia | omega)))) o_sub) (ev_int (i := 0) rfl) o_add) ev_lit o_sub) (ev_bin (ev_int (i := 1) rfl) (ev_int (i := 0) rfl) (o_mod (by (first | lia | omega)) (by (first | lia | omega)))) o_sub
  have e2 : mir fl x = x - x % fl + fl - Int.ofNat 1 - x % fl := rfl
  rw [e2]
  exact e k
theorem c_le (i j : Int) : cle i j = decide (i ≤ j) := by
  unfold cle
  rw [bnt_eq, ilt_eq]
  by_cases q : i ≤ j
  · rw [decide_eq_true q, decide_eq_false (by (first | lia | omega))]; rfl
  · rw [decide_eq_false q, decide_eq_true (by (first | lia | omega))]; rfl
theorem c_lt (i j : Int) : clt i j = decide (i < j) := ilt_eq i j
theorem c_eq (i j : Int) : ceq i j = decide (i = j) := by
  unfold ceq
  rw [ieq_eq]
  by_cases q : i = j
  · rw [decide_eq_true q]; subst q; exact beq_self_eq_true i
  · rw [decide_eq_false q]; exact beq_false_of_ne q
theorem c_ne (i j : Int) : cne i j = decide (i ≠ j) := by
  unfold cne
  rw [bnt_eq, show ieq i j = ceq i j from rfl, c_eq]
  by_cases q : i = j <;> simp [q]

noncomputable def inR (a x b : Int) : Bool := decide (a ≤ x) && decide (x < b)
theorem inR_iff {a x b : Int} : inR a x b = true ↔ a ≤ x ∧ x < b := by unfold inR; simp
theorem ev_in {a b c : XE} {l : Loc} {i j m : Int} (ha : Ev a l h (.int i)) (hb : Ev b l h (.int j)) (hc : Ev c l h (.int m)) : Ev (xcmp2 cle clt a b c) l h (.bool (inR i j m)) :=
  ev_cmp2 ha hb hc (by rw [c_le, c_lt]; rfl)

variable {vb : V} {sd st pw wk : Int} {k : V → H → Bool}
theorem run_for0 (hv : vb ≠ .unb) : f_probe_for [.ref g, vb, .int 0, .int sd, .int st, .int pw, .int wk] h k = f_probe_kpk [.ref g, vb, .int sd, .int st, .int pw, .int wk] h k := by
  cases vb <;> first | rfl | exact absurd rfl hv
theorem run_forX0 (hv : vb ≠ .unb) : f_probe_forX true [.ref g, vb, .int 0, .int sd, .int st, .int pw, .int wk] h k = f_probe_kpkX true [.ref g, vb, .int sd, .int st, .int pw, .int wk] h k := by
  cases vb <;> first | rfl | exact absurd rfl hv
theorem args1 (G : Geo h g fl rk sz) (hf : fl = 2 ∨ fl = 3) (h3 : 0 < rk) (h4 : rk ≤ 100) (hv : vb ≠ .unb) (b1 : -1000 ≤ st ∧ st ≤ 1000) (b2 : -1000 ≤ pw ∧ pw ≤ 1000) (b3 : -1000 ≤ wk ∧ wk ≤ 1000) :
    Evs (econs (xloc 0) (econs (xloc 1) (econs (xbin osub (xlit (.int (.ofNat 1))) (xloc 3)) (econs (xcall f_flipped (econs (xloc 0) (econs (xloc 4) enil))) (econs (xcall f_flipped (econs (xloc 0) (econs (xloc 5) enil))) (econs (xcall f_flipped (econs (xloc 0) (econs (xloc 6) enil))) enil))))))
      [.ref g, vb, .int 1, .int sd, .int st, .int pw, .int wk] h [.ref g, vb, .int (1 - sd), .int (flip fl rk st), .int (flip fl rk pw), .int (flip fl rk wk)] :=
  evs_cons (ev_ref (i := 0) rfl) (evs_cons (ev_loc (i := 1) rfl hv) (evs_cons (ev_bin ev_lit (ev_int (i := 3) rfl) o_sub) (evs_cons (ev_call (evs_cons (ev_ref (i := 0) rfl) (evs_cons (ev_int (i := 4) rfl) evs_nil)) (run_flip G hf h3 h4 b1.1 b1.2))
    (evs_cons (ev_call (evs_cons (ev_ref (i := 0) rfl) (evs_cons (ev_int (i := 5) rfl) evs_nil)) (run_flip G hf h3 h4 b2.1 b2.2)) (evs_cons (ev_call (evs_cons (ev_ref (i := 0) rfl) (evs_cons (ev_int (i := 6) rfl) evs_nil)) (run_flip G hf h3 h4 b3.1 b3.2)) evs_nil)))))
theorem run_for1 (G : Geo h g fl rk sz) (hf : fl = 2 ∨ fl = 3) (h3 : 0 < rk) (h4 : rk ≤ 100) (hv : vb ≠ .unb) (b1 : -1000 ≤ st ∧ st ≤ 1000) (b2 : -1000 ≤ pw ∧ pw ≤ 1000) (b3 : -1000 ≤ wk ∧ wk ≤ 1000) :
    f_probe_for [.ref g, vb, .int 1, .int sd, .int st, .int pw, .int wk] h k = f_probe_kpk [.ref g, vb, .int (1 - sd), .int (flip fl rk st), .int (flip fl rk pw), .int (flip fl rk wk)] h k :=
  args1 G hf h3 h4 hv b1 b2 b3 (fun vs h => f_probe_kpk vs h k)
theorem run_forX1 (G : Geo h g fl rk sz) (hf : fl = 2 ∨ fl = 3) (h3 : 0 < rk) (h4 : rk ≤ 100) (hv : vb ≠ .unb) (b1 : -1000 ≤ st ∧ st ≤ 1000) (b2 : -1000 ≤ pw ∧ pw ≤ 1000) (b3 : -1000 ≤ wk ∧ wk ≤ 1000) :
    f_probe_forX true [.ref g, vb, .int 1, .int sd, .int st, .int pw, .int wk] h k = f_probe_kpkX true [.ref g, vb, .int (1 - sd), .int (flip fl rk st), .int (flip fl rk pw), .int (flip fl rk wk)] h k :=
  args1 G hf h3 h4 hv b1 b2 b3 (fun vs h => f_probe_kpkX true vs h k)

noncomputable abbrev askX : XS := sif (xnot (xcmp2 cle clt (xlit (.int (.ofNat 0))) (xloc 6) (xattr (xloc 0) 2))) (sraiseX true (xloc 6)) spass
theorem run_askX (G : Geo h g fl rk sz) {l : Loc} {q : Int} (h0 : getV l 0 = .ref g) (h6 : getV l 6 = .int q) {kn : KN} {kr : KR} {kb kc : KN} : askX l h kn kr kb kc = bcase (inR 0 q sz) (kn l h) true := by
  obtain ⟨fs, e, e0, e1, e2⟩ := G.at_
  refine (run_if (t := !inR 0 q sz) (ev_not (ev_in ev_lit (ev_int h6) (ev_attr (ev_ref h0) e e2 (fun z => by cases z))) rfl)).trans ?_
  cases inR 0 q sz with
  | true => rfl
  | false =>
    show sraiseX true (xloc 6) l h kn kr kb kc = true
    exact ev_int h6 (fun v _ => asInt v fun _ => true)
-- off the board: it raises
theorem kpkX_bad (G : Geo h g fl rk sz) (hb : (inR 0 st sz && inR 0 wk sz && inR fl pw (sz - fl)) = false) : f_probe_kpkX true [.ref g, vb, .int sd, .int st, .int pw, .int wk] h k = true := by
  obtain ⟨fs, e, e0, e1, e2⟩ := G.at_
  let rest : XS := (sseq (sif (xnot (xcmp2 cle clt (xattr (xloc 0) 0) (xloc 4) (xbin osub (xattr (xloc 0) 2) (xattr (xloc 0) 0)))) (sraiseX true (xloc 4)) spass)
    (sseq (sif (xcmp cge (xbin omod (xloc 4) (xattr (xloc 0) 0)) (xcall f_pawn_files (econs (xloc 0) enil)))
      (sseq (sset 3 (xcall f_mirrored (econs (xloc 0) (econs (xloc 3) enil)))) (sseq (sset 4 (xcall f_mirrored (econs (xloc 0) (econs (xloc 4) enil)))) (sset 5 (xcall f_mirrored (econs (xloc 0) (econs (xloc 5) enil)))))) spass)
      (sret (xsub (xloc 1) (xcall f_kpk_index (econs (xloc 0) (econs (xloc 2) (econs (xloc 3) (econs (xloc 4) (econs (xloc 5) enil)))))))))) 
  let kN : KN := fun l h => rest l h (fun _ h => k .none h) k (fun _ _ => false) (fun _ _ => false)
  have e0 : f_probe_kpkX true [.ref g, vb, .int sd, .int st, .int pw, .int wk] h k =
      askX [.ref g, vb, .int sd, .int st, .int pw, .int wk, .int st] h (fun l h => tvar 6 (.int wk) l fun l => askX l h kN k kN kN) k kN (fun l h => tvar 6 (.int wk) l fun l => askX l h kN k kN kN) := rfl
  rw [e0, run_askX G rfl rfl]
  cases c1 : inR 0 st sz with
  | false => rfl
  | true =>
    show askX [.ref g, vb, .int sd, .int st, .int pw, .int wk, .int wk] h kN k kN kN = true
    rw [run_askX G rfl rfl]
    cases c2 : inR 0 wk sz with
    | false => rfl
    | true =>
      rw [c1, c2, Bool.true_and, Bool.true_and] at hb
      have c3 : Ev (xnot (xcmp2 cle clt (xattr (xloc 0) 0) (xloc 4) (xbin osub (xattr (xloc 0) 2) (xattr (xloc 0) 0)))) [.ref g, vb, .int sd, .int st, .int pw, .int wk, .int wk] h (.bool true) :=
        ev_not (ev_in (ev_attr (ev_ref (i := 0) rfl) e (by assumption) (fun z => by cases z)) (ev_int (i := 4) rfl) (ev_bin (ev_attr (ev_ref (i := 0) rfl) e e2 (fun z => by cases z)) (ev_attr (ev_ref (i := 0) rfl) e (by assumption) (fun z => by cases z)) o_sub)) (by rw [hb]; rfl)
      exact (run_if c3).trans rfl
end
end Kp
end
-- part KpTurn
section
set_option autoImplicit false
set_option linter.unusedVariables false
namespace Kp

noncomputable def Shape (fl rk sz : Int) : Prop := (fl = 2 ∧ rk = 3 ∧ sz = 6) ∨ (fl = 2 ∧ rk = 4 ∧ sz = 8) ∨ (fl = 3 ∧ rk = 3 ∧ sz = 9) ∨ (fl = 2 ∧ rk = 5 ∧ sz = 10)
noncomputable def LC (a0 a6 vb a9 a11 : V) (g : Nat) (fl rk sz col : Int) (lc : Bool) (t : List V) : Loc := a0 :: .ref 0 :: .int fl :: .int rk :: .int sz :: .bool lc :: a6 :: .ref g :: vb :: a9 :: .int col :: a11 :: t
noncomputable def weakL (l : Loc) : Loc := l.take 12 ++ tail14 (getV l 13) (getV l 14) (getV l 15) (getV l 16) (getV l 21)
noncomputable def b_812 : XS := sseq b_loop_8 (sseq b_loop_9 (sseq b_loop_10 (sseq b_loop_11 b_loop_12)))
noncomputable def b_012 : XS := sseq b_loop_0 (sseq b_loop_1 (sseq b_loop_2 (sseq b_loop_3 (sseq b_loop_4 (sseq b_loop_5 (sseq b_loop_6 (sseq b_loop_7 b_812)))))))
section
variable {fl rk sz x : Int}
theorem shape_f (s : Shape fl rk sz) : fl = 2 ∨ fl = 3 := by rcases s with ⟨rfl, rfl, rfl⟩ | ⟨rfl, rfl, rfl⟩ | ⟨rfl, rfl, rfl⟩ | ⟨rfl, rfl, rfl⟩ <;> simp
theorem shape_r (s : Shape fl rk sz) : 0 < rk ∧ rk ≤ 100 := by rcases s with ⟨rfl, rfl, rfl⟩ | ⟨rfl, rfl, rfl⟩ | ⟨rfl, rfl, rfl⟩ | ⟨rfl, rfl, rfl⟩ <;> (first | lia | omega)
theorem shape_z (s : Shape fl rk sz) : 6 ≤ sz ∧ sz ≤ 10 := by rcases s with ⟨rfl, rfl, rfl⟩ | ⟨rfl, rfl, rfl⟩ | ⟨rfl, rfl, rfl⟩ | ⟨rfl, rfl, rfl⟩ <;> (first | lia | omega)
theorem inR_eq {a b c d e f : Int} (h : (a ≤ b ∧ b < c) ↔ (d ≤ e ∧ e < f)) : inR a b c = inR d e f := by
  rw [Bool.eq_iff_iff, inR_iff, inR_iff]; exact h
theorem shape_0 (s : Shape fl rk sz) : 0 < fl := by rcases shape_f s with rfl | rfl <;> decide
theorem shape_m (s : Shape fl rk sz) : sz = rk * fl := by rcases s with ⟨rfl, rfl, rfl⟩ | ⟨rfl, rfl, rfl⟩ | ⟨rfl, rfl, rfl⟩ | ⟨rfl, rfl, rfl⟩ <;> rfl
theorem flip_div (s : Shape fl rk sz) : flip fl rk x / fl = rk - 1 - x / fl := by
  have f0 := shape_0 s
  unfold flip
  rw [Int.add_comm, Int.add_mul_ediv_right _ _ (Int.ne_of_gt f0), Int.ediv_eq_zero_of_lt (Int.emod_nonneg _ (Int.ne_of_gt f0)) (Int.emod_lt_of_pos _ f0), Int.zero_add]
theorem flip_col (s : Shape fl rk sz) : flip fl rk x % fl = x % fl := by
  unfold flip
  rw [Int.add_comm, Int.add_mul_emod_self_right, Int.emod_emod]
theorem in_div (s : Shape fl rk sz) (y a b : Int) : (a * fl ≤ y ∧ y < b * fl) ↔ (a ≤ y / fl ∧ y / fl < b) := by
  have f0 := shape_0 s
  rw [Int.le_ediv_iff_mul_le f0, Int.ediv_lt_iff_lt_mul f0]
theorem flip_sq (s : Shape fl rk sz) (h1 : -1 ≤ x) (h2 : x ≤ sz) : inR 0 (flip fl rk x) sz = inR 0 x sz := by
  apply inR_eq
  have e := in_div s (flip fl rk x) 0 rk
  have e' := in_div s x 0 rk
  rw [Int.zero_mul, ← shape_m s] at e e'
  rw [e, e', flip_div s]
  generalize x / fl = q
  clear e e' h1 h2 s
  (first | lia | omega)
theorem flip_pw (s : Shape fl rk sz) (h1 : 0 ≤ x) (h2 : x < sz + fl) : inR fl (flip fl rk x) (sz - fl) = inR fl x (sz - fl) := by
  apply inR_eq
  have e := in_div s (flip fl rk x) 1 (rk - 1)
  have e' := in_div s x 1 (rk - 1)
  rw [Int.one_mul, Int.sub_mul, Int.one_mul, ← shape_m s] at e e'
  rw [e, e', flip_div s]
  generalize x / fl = q
  clear e e' h1 h2 s
  (first | lia | omega)
theorem at_file (s : Shape fl rk sz) {q c : Int} (hq : 0 ≤ q ∧ q < rk + 1) (hc : 0 ≤ c ∧ c < fl) : (0 ≤ q * fl + c ∧ q * fl + c < sz + fl) ∧ (q * fl + c) % fl = c := by
  have f0 := shape_0 s
  have e := in_div s (q * fl + c) 0 (rk + 1)
  rw [Int.zero_mul, Int.add_mul, Int.one_mul, ← shape_m s] at e
  rw [e, Int.add_comm, Int.add_mul_ediv_right _ _ (Int.ne_of_gt f0), Int.ediv_eq_zero_of_lt hc.1 hc.2, Int.zero_add, Int.add_mul_emod_self_right, Int.emod_eq_of_lt hc.1 hc.2]
  exact ⟨hq, rfl⟩
theorem at_mir (s : Shape fl rk sz) {q c : Int} (hq : 0 ≤ q ∧ q < rk + 1) (hc : 0 ≤ c ∧ c < fl) : (0 ≤ mir fl (q * fl + c) ∧ mir fl (q * fl + c) < sz + fl) ∧ mir fl (q * fl + c) % fl = fl - 1 - c := by
  have e : mir fl (q * fl + c) = q * fl + (fl - 1 - c) := by
    unfold mir
    rw [(at_file s hq hc).2]
    generalize q * fl = a
    clear s hq hc
    (first | lia | omega)
  rw [e]
  exact at_file s hq (by clear e hq s; (first | lia | omega))
end
section
variable {l : Loc} {h : H} {kn : KN} {kr : KR} {kb kc : KN} {X : Bool}
theorem run_seq {a b : XS} (e : a l h (fun l h => b l h kn kr kb kc) kr kb kc = X) : sseq a b l h kn kr kb kc = X := e
theorem run_setL {a : XE} {n : Nat} {v : V} {l' : Loc} (ev : Ev a l h v) (el : setV v l n = l') (e : kn l' h = X) : sset n a l h kn kr kb kc = X := by rw [run_set ev, el]; exact e
theorem run_setC {f : Fn} {r : XL} {vs : List V} {n : Nat} (er : Evs r l h vs) (e : f vs h (fun v h => kn (setV v l n) h) = X) : sset n (xcall f r) l h kn kr kb kc = X := by
  have : sset n (xcall f r) l h kn kr kb kc = f vs h (fun v h => setK v l n fun l => kn l h) := er _
  rw [this, ← e]
  congr 1
  funext v h'
  rw [setK_eq]
theorem run_ifT {c : XE} {s₁ s₂ : XS} (ev : Ev c l h (.bool true)) (e : s₁ l h kn kr kb kc = X) : sif c s₁ s₂ l h kn kr kb kc = X := by rw [run_if ev]; exact e
theorem run_ifF {c : XE} {s₁ s₂ : XS} (ev : Ev c l h (.bool false)) (e : s₂ l h kn kr kb kc = X) : sif c s₁ s₂ l h kn kr kb kc = X := by rw [run_if ev]; exact e
theorem run_pass (e : kn l h = X) : spass l h kn kr kb kc = X := e
theorem run_cont (e : kc l h = X) : scont l h kn kr kb kc = X := e
theorem stry_f (hb : getV l 20 = .bool false) (e : sset 21 (xcall f_probe_for tryArgs) l h kn kr kb kc = X) : stry l h kn kr kb kc = X := by
  have : stry l h kn kr kb kc = truthy (getV l 20) (fun b => bcase b (bcase (xcall (f_probe_forX true) tryArgs l (frzH h) fun _ _ => false) (kn l h) false) (sset 21 (xcall f_probe_for tryArgs) l h kn kr kb kc)) := rfl
  rw [this, hb]; exact e
theorem stry_t (hb : getV l 20 = .bool true) {vs : List V} (er : Evs tryArgs l (frzH h) vs) (hx : f_probe_forX true vs (frzH h) (fun _ _ => false) = true) (e : kn l h = true) : stry l h kn kr kb kc = true := by
  have : stry l h kn kr kb kc = truthy (getV l 20) (fun b => bcase b (bcase (xcall (f_probe_forX true) tryArgs l (frzH h) fun _ _ => false) (kn l h) false) (sset 21 (xcall f_probe_for tryArgs) l h kn kr kb kc)) := rfl
  rw [this, hb]
  have e2 : xcall (f_probe_forX true) tryArgs l (frzH h) (fun _ _ => false) = true := (er _).trans hx
  show bcase (xcall (f_probe_forX true) tryArgs l (frzH h) fun _ _ => false) (kn l h) false = true
  rw [e2]; exact e
end
section
variable {a0 a6 vb a9 a11 a12 a17 a18 a20 a21 a22 a23 a24 a25 : V} {g : Nat} {fl rk sz col sd st pw wk ow : Int} {lc : Bool} {h : H} {kN : KN} {kc : KN}
theorem Geo.frz (G : Geo h g fl rk sz) : Geo (frzH h) g fl rk sz := by cases h; exact ⟨G.at_⟩
theorem p2_bool (s : Shape fl rk sz) (G : Geo h g fl rk sz) (hv : vb ≠ .unb) (h1 : -1 ≤ st ∧ st ≤ sz) (h2 : -1 ≤ wk ∧ wk ≤ sz) (h3 : 0 ≤ pw ∧ pw < sz + fl) (hsd : sd = 0 ∨ sd = 1) (how : ow = 0 ∨ ow = 1) (hcol : pw % fl = col ∨ pw % fl = fl - 1 - col)
    (hkc : ∀ t, t.length = 14 → kc (LC a0 a6 vb a9 a11 g fl rk sz col lc t) h = true)
    (hQ : ∀ sd st pw wk : Int, sd = 0 ∨ sd = 1 → inR 0 st sz = true → inR 0 wk sz = true → inR fl pw (sz - fl) = true → pw % fl = col ∨ pw % fl = fl - 1 - col →
      f_probe_kpk [.ref g, vb, .int sd, .int st, .int pw, .int wk] h (fun v h' => kN (LC a0 a6 vb a9 a11 g fl rk sz col lc (tail14 (.int sd) (.int st) (.int pw) (.int wk) v)) h') = true) :
    b_812 (LC a0 a6 vb a9 a11 g fl rk sz col lc [a12, .int sd, .int st, .int pw, .int wk, a17, a18, .int ow, a20, a21, a22, a23, a24, a25]) h (fun l h => kN (weakL l) h) noR no2 kc = true := by
  have hf := shape_f s
  have hr := shape_r s
  have hz := shape_z s
  have f1 := flip_sq s h1.1 h1.2
  have f2 := flip_sq s h2.1 h2.2
  have f3 := flip_pw s h3.1 h3.2
  unfold b_812
  refine run_seq ?_
  unfold b_loop_8
  refine run_setL (v := .bool (!(inR 0 st sz && (inR 0 wk sz && inR fl pw (sz - fl))))) (l' := (LC a0 a6 vb a9 a11 g fl rk sz col lc [a12, .int sd, .int st, .int pw, .int wk, a17, a18, .int ow, .bool (!(inR 0 st sz && (inR 0 wk sz && inR fl pw (sz - fl)))), a21, a22, a23, a24, a25]))
    (ev_not (ev_and (ev_in ev_lit (ev_int (i := 14) rfl) (ev_int (i := 4) rfl)) (ev_and (ev_in ev_lit (ev_int (i := 16) rfl) (ev_int (i := 4) rfl)) (ev_in (ev_int (i := 2) rfl) (ev_int (i := 15) rfl) (ev_bin (ev_int (i := 4) rfl) (ev_int (i := 2) rfl) o_sub)))) rfl) rfl ?_
  generalize hbad : (!(inR 0 st sz && (inR 0 wk sz && inR fl pw (sz - fl)))) = bad
  refine run_seq ?_
  unfold b_loop_9
  refine run_setL (v := .int (-1)) (l' := (LC a0 a6 vb a9 a11 g fl rk sz col lc [a12, .int sd, .int st, .int pw, .int wk, a17, a18, .int ow, .bool bad, .int (-1), a22, a23, a24, a25])) (ev_neg ev_lit) rfl ?_
  refine run_seq ?_
  unfold b_loop_10
  have args : ∀ h', Evs tryArgs (LC a0 a6 vb a9 a11 g fl rk sz col lc [a12, .int sd, .int st, .int pw, .int wk, a17, a18, .int ow, .bool bad, .int (-1), a22, a23, a24, a25]) h' [.ref g, vb, .int ow, .int sd, .int st, .int pw, .int wk] := fun h' =>
    evs_cons (ev_ref (i := 7) rfl) (evs_cons (ev_loc (i := 8) rfl hv) (evs_cons (ev_int (i := 19) rfl) (evs_cons (ev_int (i := 13) rfl) (evs_cons (ev_int (i := 14) rfl) (evs_cons (ev_int (i := 15) rfl) (evs_cons (ev_int (i := 16) rfl) evs_nil))))))
  cases bad with
  | true =>
    have hb : (inR 0 st sz && inR 0 wk sz && inR fl pw (sz - fl)) = false := by
      rw [Bool.and_assoc]
      revert hbad
      cases (inR 0 st sz && (inR 0 wk sz && inR fl pw (sz - fl))) <;> simp
    refine stry_t rfl (args _) ?_ ?_
    · rcases how with rfl | rfl
      · rw [run_forX0 hv]; exact kpkX_bad G.frz hb
      · rw [run_forX1 G.frz hf hr.1 hr.2 hv (by (first | lia | omega)) (by (first | lia | omega)) (by (first | lia | omega))]
        refine kpkX_bad G.frz ?_
        rw [f1, f2, f3]; exact hb
    · skip
      refine run_seq ?_
      unfold b_loop_11
      refine run_ifT (ev_bool (i := 20) rfl) (run_seq (run_ifF (ev_cmp (i := -1) (j := -1) (ev_int (i := 21) rfl) (ev_neg ev_lit) (by rw [c_ne]; rfl)) (run_pass (run_cont (hkc _ rfl)))))
  | false =>
    have hg : inR 0 st sz = true ∧ inR 0 wk sz = true ∧ inR fl pw (sz - fl) = true := by
      revert hbad
      cases inR 0 st sz <;> cases inR 0 wk sz <;> cases inR fl pw (sz - fl) <;> simp
    refine stry_f rfl (run_setC (args _) ?_)
    rcases how with rfl | rfl
    · rw [run_for0 hv]
      refine Eq.trans (congrArg (f_probe_kpk _ h) ?_) (hQ sd st pw wk hsd hg.1 hg.2.1 hg.2.2 hcol)
      funext v h'
      rw [show setV v (LC a0 a6 vb a9 a11 g fl rk sz col lc [a12, .int sd, .int st, .int pw, .int wk, a17, a18, .int 0, .bool false, .int (-1), a22, a23, a24, a25]) 21 = (LC a0 a6 vb a9 a11 g fl rk sz col lc [a12, .int sd, .int st, .int pw, .int wk, a17, a18, .int 0, .bool false, v, a22, a23, a24, a25]) from rfl]
      refine run_seq ?_
      unfold b_loop_11
      refine run_ifF (ev_bool (i := 20) rfl) (run_pass ?_)
      unfold b_loop_12
      refine run_ifF (ev_cmp (i := 0) (j := 1) (ev_int (i := 19) rfl) ev_lit (by rw [c_eq]; rfl)) (run_pass ?_)
      rfl
    · rw [run_for1 G hf hr.1 hr.2 hv (by (first | lia | omega)) (by (first | lia | omega)) (by (first | lia | omega))]
      refine Eq.trans (congrArg (f_probe_kpk _ h) ?_) (hQ (1 - sd) (flip fl rk st) (flip fl rk pw) (flip fl rk wk) (by (first | lia | omega)) (f1.trans hg.1) (f2.trans hg.2.1) (f3.trans hg.2.2) (by rw [flip_col s]; exact hcol))
      funext v h'
      rw [show setV v (LC a0 a6 vb a9 a11 g fl rk sz col lc [a12, .int sd, .int st, .int pw, .int wk, a17, a18, .int 1, .bool false, .int (-1), a22, a23, a24, a25]) 21 = (LC a0 a6 vb a9 a11 g fl rk sz col lc [a12, .int sd, .int st, .int pw, .int wk, a17, a18, .int 1, .bool false, v, a22, a23, a24, a25]) from rfl]
      refine run_seq ?_
      unfold b_loop_11
      refine run_ifF (ev_bool (i := 20) rfl) (run_pass ?_)
      unfold b_loop_12
      have ht : ∀ x : Int, -1000 ≤ x → x ≤ 1000 → ∀ k, f__law_turn [.int fl, .int rk, .int x] h' k = k (.int (flip fl rk x)) h' := fun x b1 b2 k => run_turn hf hr.1 hr.2 b1 b2 k
      refine run_ifT (ev_cmp (i := 1) (j := 1) (ev_int (i := 19) rfl) ev_lit (by rw [c_eq]; rfl)) (run_seq ?_)
      refine run_setL (l' := (LC a0 a6 vb a9 a11 g fl rk sz col lc [a12, .int sd, .int (flip fl rk st), .int pw, .int wk, a17, a18, .int 1, .bool false, v, a22, a23, a24, a25])) (ev_call (evs_cons (ev_int (i := 2) rfl) (evs_cons (ev_int (i := 3) rfl) (evs_cons (ev_int (i := 14) rfl) evs_nil))) (ht st (by (first | lia | omega)) (by (first | lia | omega)))) rfl (run_seq ?_)
      refine run_setL (l' := (LC a0 a6 vb a9 a11 g fl rk sz col lc [a12, .int sd, .int (flip fl rk st), .int (flip fl rk pw), .int wk, a17, a18, .int 1, .bool false, v, a22, a23, a24, a25])) (ev_call (evs_cons (ev_int (i := 2) rfl) (evs_cons (ev_int (i := 3) rfl) (evs_cons (ev_int (i := 15) rfl) evs_nil))) (ht pw (by (first | lia | omega)) (by (first | lia | omega)))) rfl (run_seq ?_)
      refine run_setL (l' := (LC a0 a6 vb a9 a11 g fl rk sz col lc [a12, .int sd, .int (flip fl rk st), .int (flip fl rk pw), .int (flip fl rk wk), a17, a18, .int 1, .bool false, v, a22, a23, a24, a25])) (ev_call (evs_cons (ev_int (i := 2) rfl) (evs_cons (ev_int (i := 3) rfl) (evs_cons (ev_int (i := 16) rfl) evs_nil))) (ht wk (by (first | lia | omega)) (by (first | lia | omega)))) rfl ?_
      refine run_setL (l' := (LC a0 a6 vb a9 a11 g fl rk sz col lc [a12, .int (1 - sd), .int (flip fl rk st), .int (flip fl rk pw), .int (flip fl rk wk), a17, a18, .int 1, .bool false, v, a22, a23, a24, a25])) (ev_bin (i := 1) (j := sd) ev_lit (ev_int (i := 13) rfl) o_sub) rfl ?_
      rfl
theorem p1_bool (s : Shape fl rk sz) (G : Geo h g fl rk sz) (hv : vb ≠ .unb) {a13 a14 a15 a16 a19 : V} {xs : List Int} {at_ : Nat} (hs : h.t.get 0 = .list (xs.map V.int)) (hat : at_ + 3 < xs.length) (hlen : xs.length ≤ 100) (hc : 0 ≤ col ∧ col < fl)
    (hkc : ∀ t, t.length = 14 → kc (LC a0 a6 vb a9 a11 g fl rk sz col lc t) h = true)
    (hQ : ∀ sd st pw wk : Int, sd = 0 ∨ sd = 1 → inR 0 st sz = true → inR 0 wk sz = true → inR fl pw (sz - fl) = true → pw % fl = col ∨ pw % fl = fl - 1 - col →
      f_probe_kpk [.ref g, vb, .int sd, .int st, .int pw, .int wk] h (fun v h' => kN (LC a0 a6 vb a9 a11 g fl rk sz col lc (tail14 (.int sd) (.int st) (.int pw) (.int wk) v)) h') = true) :
    b_012 (LC a0 a6 vb a9 a11 g fl rk sz col lc [a12, a13, a14, a15, a16, a17, .int (at_ : Int), a19, a20, a21, a22, a23, a24, a25]) h (fun l h => kN (weakL l) h) noR no2 kc = true := by
  have hf := shape_f s
  have hr := shape_r s
  have hz := shape_z s
  obtain ⟨x0, e0⟩ : ∃ x, (xs.map V.int)[at_]? = some (.int x) := ⟨xs[at_], by simp [show at_ < xs.length by (first | lia | omega)]⟩
  obtain ⟨x1, e1⟩ : ∃ x, (xs.map V.int)[at_ + 1]? = some (.int x) := ⟨xs[at_ + 1], by simp [show at_ + 1 < xs.length by (first | lia | omega)]⟩
  obtain ⟨x2, e2⟩ : ∃ x, (xs.map V.int)[at_ + 2]? = some (.int x) := ⟨xs[at_ + 2], by simp [show at_ + 2 < xs.length by (first | lia | omega)]⟩
  obtain ⟨x3, e3⟩ : ∃ x, (xs.map V.int)[at_ + 3]? = some (.int x) := ⟨xs[at_ + 3], by simp [show at_ + 3 < xs.length by (first | lia | omega)]⟩
  have b0 : 0 ≤ x0 % (sz + 2) ∧ x0 % (sz + 2) < sz + 2 := ⟨Int.emod_nonneg _ (by (first | lia | omega)), Int.emod_lt_of_pos _ (by (first | lia | omega))⟩
  have b1 : 0 ≤ (x1 + 1) % (rk + 1) ∧ (x1 + 1) % (rk + 1) < rk + 1 := ⟨Int.emod_nonneg _ (by (first | lia | omega)), Int.emod_lt_of_pos _ (by (first | lia | omega))⟩
  have b2 : 0 ≤ (x2 + sz - 1) % (sz + 2) ∧ (x2 + sz - 1) % (sz + 2) < sz + 2 := ⟨Int.emod_nonneg _ (by (first | lia | omega)), Int.emod_lt_of_pos _ (by (first | lia | omega))⟩
  have b3 : x3 % 2 = 0 ∨ x3 % 2 = 1 := by (first | lia | omega)
  have b4 : x3 / 2 % 2 = 0 ∨ x3 / 2 % 2 = 1 := by (first | lia | omega)
  unfold b_012
  refine run_seq ?_
  unfold b_loop_0
  refine run_setL (v := .int (x0 % (sz + 2))) (l' := (LC a0 a6 vb a9 a11 g fl rk sz col lc [a12, a13, .int (x0 % (sz + 2)), a15, a16, a17, .int (at_ : Int), a19, a20, a21, a22, a23, a24, a25])) (ev_bin (ev_item (ev_ref (i := 1) rfl) (ev_int (i := 18) rfl) hs e0 (fun z => by cases z) (by (first | lia | omega))) (ev_bin (i := sz) (j := 2) (m := sz + 2) (ev_int (i := 4) rfl) ev_lit o_add) (o_mod (by (first | lia | omega)) (by (first | lia | omega)))) rfl (run_seq ?_)
  generalize x0 % (sz + 2) = st0 at b0 ⊢
  unfold b_loop_1
  refine run_setL (v := .int (((x1 + 1) % (rk + 1)) * fl + col)) (l' := (LC a0 a6 vb a9 a11 g fl rk sz col lc [a12, a13, .int st0, .int (((x1 + 1) % (rk + 1)) * fl + col), a16, a17, .int (at_ : Int), a19, a20, a21, a22, a23, a24, a25])) (ev_bin (ev_bin (ev_bin (ev_bin (ev_item (ev_ref (i := 1) rfl) (ev_bin (m := ((at_ + 1 : Nat) : Int)) (ev_int (i := 18) rfl) ev_lit (fun k => o_add k)) hs e1 (fun z => by cases z) (by (first | lia | omega))) ev_lit o_add) (ev_bin (i := rk) (j := 1) (m := rk + 1) (ev_int (i := 3) rfl) ev_lit o_add) (o_mod (by (first | lia | omega)) (by (first | lia | omega)))) (ev_int (i := 2) rfl) (o_mul (by show (x1 + 1) % (rk + 1) < _; (first | lia | omega)) (by show _ ≤ (x1 + 1) % (rk + 1); (first | lia | omega)))) (ev_int (i := 10) rfl) o_add) rfl (run_seq ?_)
  generalize (x1 + 1) % (rk + 1) = q1 at b1 ⊢
  have hpw : (0 ≤ q1 * fl + col ∧ q1 * fl + col < sz + fl) ∧ (q1 * fl + col) % fl = col ∧ (0 ≤ mir fl (q1 * fl + col) ∧ mir fl (q1 * fl + col) < sz + fl) ∧ mir fl (q1 * fl + col) % fl = fl - 1 - col := by
    exact ⟨(at_file s b1 hc).1, (at_file s b1 hc).2, (at_mir s b1 hc).1, (at_mir s b1 hc).2⟩
  generalize q1 * fl + col = p0 at hpw ⊢
  unfold b_loop_2
  have two : ∀ pw : Int, (0 ≤ pw ∧ pw < sz + fl) → (pw % fl = col ∨ pw % fl = fl - 1 - col) → (sseq b_loop_3 (sseq b_loop_4 (sseq b_loop_5 (sseq b_loop_6 (sseq b_loop_7 b_812))))) (LC a0 a6 vb a9 a11 g fl rk sz col lc [a12, a13, .int st0, .int pw, a16, a17, .int (at_ : Int), a19, a20, a21, a22, a23, a24, a25]) h (fun l h => kN (weakL l) h) noR no2 kc = true := by
    intro pw c1 c2
    refine run_seq ?_
    unfold b_loop_3
    refine run_setL (v := .int ((x2 + sz - 1) % (sz + 2))) (l' := (LC a0 a6 vb a9 a11 g fl rk sz col lc [a12, a13, .int st0, .int pw, .int ((x2 + sz - 1) % (sz + 2)), a17, .int (at_ : Int), a19, a20, a21, a22, a23, a24, a25])) (ev_bin (ev_bin (ev_bin (ev_item (ev_ref (i := 1) rfl) (ev_bin (m := ((at_ + 2 : Nat) : Int)) (ev_int (i := 18) rfl) ev_lit (fun k => o_add k)) hs e2 (fun z => by cases z) (by (first | lia | omega))) (ev_int (i := 4) rfl) o_add) ev_lit o_sub) (ev_bin (i := sz) (j := 2) (m := sz + 2) (ev_int (i := 4) rfl) ev_lit o_add) (o_mod (by (first | lia | omega)) (by (first | lia | omega)))) rfl (run_seq ?_)
    generalize (x2 + sz - 1) % (sz + 2) = wk0 at b2 ⊢
    unfold b_loop_4
    refine run_setL (v := .int (x3 % 2)) (l' := (LC a0 a6 vb a9 a11 g fl rk sz col lc [a12, .int (x3 % 2), .int st0, .int pw, .int wk0, a17, .int (at_ : Int), a19, a20, a21, a22, a23, a24, a25])) (ev_bin (ev_item (ev_ref (i := 1) rfl) (ev_bin (m := ((at_ + 3 : Nat) : Int)) (ev_int (i := 18) rfl) ev_lit (fun k => o_add k)) hs e3 (fun z => by cases z) (by (first | lia | omega))) ev_lit (o_mod (by decide) (by decide))) rfl (run_seq ?_)
    unfold b_loop_5
    refine run_setL (v := .int (x3 / 2 % 2)) (l' := (LC a0 a6 vb a9 a11 g fl rk sz col lc [a12, .int (x3 % 2), .int st0, .int pw, .int wk0, a17, .int (at_ : Int), .int (x3 / 2 % 2), a20, a21, a22, a23, a24, a25])) (ev_bin (ev_bin (ev_item (ev_ref (i := 1) rfl) (ev_bin (m := ((at_ + 3 : Nat) : Int)) (ev_int (i := 18) rfl) ev_lit (fun k => o_add k)) hs e3 (fun z => by cases z) (by (first | lia | omega))) ev_lit (o_div (by decide) (by decide))) ev_lit (o_mod (by decide) (by decide))) rfl (run_seq ?_)
    generalize x3 % 2 = sd at b3 ⊢
    generalize x3 / 2 % 2 = ow at b4 ⊢
    have three : ∀ st : Int, (-1 ≤ st ∧ st ≤ sz) → (sseq b_loop_7 b_812) (LC a0 a6 vb a9 a11 g fl rk sz col lc [a12, .int sd, .int st, .int pw, .int wk0, a17, .int (at_ : Int), .int ow, a20, a21, a22, a23, a24, a25]) h (fun l h => kN (weakL l) h) noR no2 kc = true := by
      intro st d1
      refine run_seq ?_
      unfold b_loop_7
      by_cases q : wk0 = sz + 1
      · refine run_ifT (ev_cmp (i := wk0) (j := sz + 1) (ev_int (i := 16) rfl) (ev_bin (ev_int (i := 4) rfl) ev_lit o_add) (by rw [c_eq, decide_eq_true q])) ?_
        refine run_setL (l' := (LC a0 a6 vb a9 a11 g fl rk sz col lc [a12, .int sd, .int st, .int pw, .int (-1), a17, .int (at_ : Int), .int ow, a20, a21, a22, a23, a24, a25])) (ev_neg ev_lit) rfl ?_
        exact p2_bool s G hv d1 (by show -1 ≤ -1 ∧ -1 ≤ sz; (first | lia | omega)) c1 b3 b4 c2 hkc hQ
      · refine run_ifF (ev_cmp (i := wk0) (j := sz + 1) (ev_int (i := 16) rfl) (ev_bin (ev_int (i := 4) rfl) ev_lit o_add) (by rw [c_eq, decide_eq_false q])) (run_pass ?_)
        exact p2_bool s G hv d1 (by (first | lia | omega)) c1 b3 b4 c2 hkc hQ
    unfold b_loop_6
    by_cases q : st0 = sz + 1
    · refine run_ifT (ev_cmp (i := st0) (j := sz + 1) (ev_int (i := 14) rfl) (ev_bin (ev_int (i := 4) rfl) ev_lit o_add) (by rw [c_eq, decide_eq_true q])) ?_
      refine run_setL (l' := (LC a0 a6 vb a9 a11 g fl rk sz col lc [a12, .int sd, .int (-1), .int pw, .int wk0, a17, .int (at_ : Int), .int ow, a20, a21, a22, a23, a24, a25])) (ev_neg ev_lit) rfl ?_
      exact three (-1) (by (first | lia | omega))
    · refine run_ifF (ev_cmp (i := st0) (j := sz + 1) (ev_int (i := 14) rfl) (ev_bin (ev_int (i := 4) rfl) ev_lit o_add) (by rw [c_eq, decide_eq_false q])) (run_pass ?_)
      exact three st0 (by (first | lia | omega))
  by_cases q : x1 / (rk + 1) % 2 = 1
  · refine run_ifT (ev_cmp (i := x1 / (rk + 1) % 2) (j := 1) (ev_bin (ev_bin (ev_item (ev_ref (i := 1) rfl) (ev_bin (m := ((at_ + 1 : Nat) : Int)) (ev_int (i := 18) rfl) ev_lit (fun k => o_add k)) hs e1 (fun z => by cases z) (by (first | lia | omega))) (ev_bin (i := rk) (j := 1) (m := rk + 1) (ev_int (i := 3) rfl) ev_lit o_add) (o_div (by (first | lia | omega)) (by (first | lia | omega)))) ev_lit (o_mod (by decide) (by decide))) ev_lit (by rw [c_eq, decide_eq_true q])) ?_
    refine run_setL (l' := (LC a0 a6 vb a9 a11 g fl rk sz col lc [a12, a13, .int st0, .int (mir fl p0), a16, a17, .int (at_ : Int), a19, a20, a21, a22, a23, a24, a25])) (ev_call (evs_cons (ev_int (i := 2) rfl) (evs_cons (ev_int (i := 15) rfl) evs_nil)) (fun k => run_mir hf k)) rfl ?_
    exact two _ hpw.2.2.1 (.inr hpw.2.2.2)
  · refine run_ifF (ev_cmp (i := x1 / (rk + 1) % 2) (j := 1) (ev_bin (ev_bin (ev_item (ev_ref (i := 1) rfl) (ev_bin (m := ((at_ + 1 : Nat) : Int)) (ev_int (i := 18) rfl) ev_lit (fun k => o_add k)) hs e1 (fun z => by cases z) (by (first | lia | omega))) (ev_bin (i := rk) (j := 1) (m := rk + 1) (ev_int (i := 3) rfl) ev_lit o_add) (o_div (by (first | lia | omega)) (by (first | lia | omega)))) ev_lit (o_mod (by decide) (by decide))) ev_lit (by rw [c_eq, decide_eq_false q])) (run_pass ?_)
    exact two _ hpw.1 (.inl hpw.2.1)
end
end Kp
end
section
set_option maxRecDepth 1000000
namespace Kp
-- part Sy1
-- Sy1: what a combinator does at a place, told as equations (own work): expressions, tests, statements, loops
abbrev N (n : Nat) : V := .int (.ofNat n)

section ops
variable {a b : Nat} (k : Int → Bool)
theorem n_add : oadd (.ofNat a) (.ofNat b) k = k (.ofNat (a + b)) := rfl
theorem n_sub (h : b ≤ a) : osub (.ofNat a) (.ofNat b) k = k (.ofNat (a - b)) := by
  rw [o_sub]; congr 1; simp only [Int.ofNat_eq_natCast]; (first | lia | omega)
theorem n_mul (h : a < 2 ^ 60) : omul (.ofNat a) (.ofNat b) k = k (.ofNat (a * b)) := by
  rw [o_mul (by simp only [Int.ofNat_eq_natCast]; (first | lia | omega)) (by simp only [Int.ofNat_eq_natCast]; (first | lia | omega))]; rfl
theorem n_div (h : 0 < b) (h2 : b ≤ 1000000) : odiv (.ofNat a) (.ofNat b) k = k (.ofNat (a / b)) := by
  rw [o_div (by simp only [Int.ofNat_eq_natCast]; (first | lia | omega)) (by simp only [Int.ofNat_eq_natCast]; (first | lia | omega))]; rfl
theorem n_mod (h : 0 < b) (h2 : b ≤ 1000000) : omod (.ofNat a) (.ofNat b) k = k (.ofNat (a % b)) := by
  rw [o_mod (by simp only [Int.ofNat_eq_natCast]; (first | lia | omega)) (by simp only [Int.ofNat_eq_natCast]; (first | lia | omega))]; rfl
theorem n_and : oand (.ofNat a) (.ofNat b) k = k (.ofNat (Nat.land a b)) := rfl
theorem n_or : oor (.ofNat a) (.ofNat b) k = k (.ofNat (Nat.lor a b)) := rfl
theorem n_shr : oshr (.ofNat a) (.ofNat b) k = k (.ofNat (Nat.shiftRight a b)) := rfl
theorem n_shl (h : b ≤ 60) (h2 : a ≤ 1152921504606846976) : oshl (.ofNat a) (.ofNat b) k = k (.ofNat (Nat.shiftLeft a b)) := by
  show bcase (Nat.ble b 60) (bcase (Nat.ble a 1152921504606846976) (k (.ofNat (Nat.shiftLeft a b))) false) false = _
  rw [Nat.ble_eq_true_of_le h, Nat.ble_eq_true_of_le h2]; rfl
theorem n_xor : oxor (.ofNat a) (.ofNat b) k = k (.ofNat (Nat.sub (Nat.lor a b) (Nat.land a b))) := by
  have : Nat.land a b ≤ Nat.lor a b := Nat.le_trans (Nat.and_le_left : a &&& b ≤ a) (Nat.left_le_or : a ≤ a ||| b)
  have e : oxor (.ofNat a) (.ofNat b) k = osub (.ofNat (Nat.lor a b)) (.ofNat (Nat.land a b)) k := rfl
  rw [e, n_sub k this]; rfl
end ops

noncomputable def Ex (e : XE) (l : Loc) (h : H) (v : V) (h' : H) : Prop := ∀ k, e l h k = k v h'
noncomputable def Exs (e : XL) (l : Loc) (h : H) (vs : List V) (h' : H) : Prop := ∀ k, e l h k = k vs h'
noncomputable def Fc (f : Fn) (as : List V) (h : H) (v : V) (h' : H) : Prop := ∀ k, f as h k = k v h'
-- a test
noncomputable def Tv (c : XE) (l : Loc) (h : H) (t : Bool) : Prop := ∀ k : Bool → H → Bool, c l h (fun v h => truthy v fun b => k b h) = k t h
section
variable {l l1 : Loc} {h h1 h2 : H} {a b c e : XE} {v w : V} {i j m : Nat} {t u : Bool} {r : XL} {vs : List V} {f : Fn}
theorem Ev.ex (x : Ev e l h v) : Ex e l h v h := x
theorem ex_call (hr : Exs r l h vs h1) (hf : Fc f vs h1 v h2) : Ex (xcall f r) l h v h2 := fun k => (hr _).trans (hf k)
theorem ev_fc (hr : Evs r l h vs) (hf : Fc f vs h v h1) : Ex (xcall f r) l h v h1 := fun k => (hr _).trans (hf k)
theorem ev_cl (hr : Evs r l h vs) (hf : Fc f vs h v h) : Ev (xcall f r) l h v := fun k => (hr _).trans (hf k)
theorem exs_nil : Exs enil l h [] h := fun _ => rfl
theorem exs_cons (ha : Ex a l h v h1) (hr : Exs r l h1 vs h2) : Exs (econs a r) l h (v :: vs) h2 := fun k => by
  show a l h _ = _
  rw [ha]
  show r l h1 _ = _
  rw [hr]
theorem nv_loc {i n : Nat} (e : getV l i = N n) : Ev (xloc i) l h (N n) := ev_int e
theorem ev_k0 : Ev (xlit (.int (.ofNat (nat_lit 0)))) l h (N 0) := ev_lit
theorem ev_k1 : Ev (xlit (.int (.ofNat (nat_lit 1)))) l h (N 1) := ev_lit
theorem ev_k2 : Ev (xlit (.int (.ofNat (nat_lit 2)))) l h (N 2) := ev_lit
theorem ev_k3 : Ev (xlit (.int (.ofNat (nat_lit 3)))) l h (N 3) := ev_lit
theorem ev_k4 : Ev (xlit (.int (.ofNat (nat_lit 4)))) l h (N 4) := ev_lit
theorem ev_k5 : Ev (xlit (.int (.ofNat (nat_lit 5)))) l h (N 5) := ev_lit
theorem ev_k7 : Ev (xlit (.int (.ofNat (nat_lit 7)))) l h (N 7) := ev_lit
theorem ev_k8 : Ev (xlit (.int (.ofNat (nat_lit 8)))) l h (N 8) := ev_lit
theorem ev_k15 : Ev (xlit (.int (.ofNat (nat_lit 15)))) l h (N 15) := ev_lit
theorem ev_ceq (ha : Ev a l h (N i)) (hb : Ev b l h (N j)) : Ev (xcmp ceq a b) l h (.bool (Nat.beq i j)) := ev_cmp ha hb rfl
theorem ev_cne (ha : Ev a l h (N i)) (hb : Ev b l h (N j)) : Ev (xcmp cne a b) l h (.bool (bnt (Nat.beq i j))) := ev_cmp ha hb rfl
theorem ev_clt (ha : Ev a l h (N i)) (hb : Ev b l h (N j)) : Ev (xcmp clt a b) l h (.bool (Nat.ble (i + 1) j)) := ev_cmp ha hb rfl
theorem ev_cle (ha : Ev a l h (N i)) (hb : Ev b l h (N j)) : Ev (xcmp cle a b) l h (.bool (bnt (Nat.ble (j + 1) i))) := ev_cmp ha hb rfl
theorem ev_cgt (ha : Ev a l h (N i)) (hb : Ev b l h (N j)) : Ev (xcmp cgt a b) l h (.bool (Nat.ble (j + 1) i)) := ev_cmp ha hb rfl
theorem ev_cge (ha : Ev a l h (N i)) (hb : Ev b l h (N j)) : Ev (xcmp cge a b) l h (.bool (bnt (Nat.ble (i + 1) j))) := ev_cmp ha hb rfl
theorem tv_bool (x : Ev c l h (.bool t)) : Tv c l h t := fun k => x _
theorem tv_int (x : Ev c l h (N i)) : Tv c l h (bnt (Nat.beq i 0)) := fun k => x _
theorem tv_bin {o : Op} (x : Ev (xbin o a b) l h (N i)) : Tv (xbin o a b) l h (bnt (Nat.beq i 0)) := fun k => x _
theorem truthy_two (v : V) (X : Bool) (k : Bool → Bool) : truthy v (fun t => bcase t X (truthy v k)) = truthy v (fun t => bcase t X (k t)) := by
  cases v with
  | bool b => cases b <;> rfl
  | int i =>
    show bcase (bnt (ieq i (.ofNat 0))) X (k (bnt (ieq i (.ofNat 0)))) = _
    rfl
  | _ => rfl
theorem truthy_two' (v : V) (X : Bool) (k : Bool → Bool) : truthy v (fun t => bcase t (truthy v k) X) = truthy v (fun t => bcase t (k t) X) := by
  cases v with
  | bool b => cases b <;> rfl
  | int i =>
    show bcase (bnt (ieq i (.ofNat 0))) (k (bnt (ieq i (.ofNat 0)))) X = _
    rfl
  | _ => rfl
theorem tv_and (ha : Tv a l h t) (hb : t = true → Tv b l h u) : Tv (xand a b) l h (bcase t u false) := fun k => by
  have e1 : xand a b l h (fun v h => truthy v fun b => k b h) = a l h (fun va h => truthy va fun t => bcase t (b l h (fun v h => truthy v fun b => k b h)) (truthy va fun b => k b h)) := rfl
  have e2 : (fun (va : V) (h : H) => truthy va fun t => bcase t (b l h (fun v h => truthy v fun b => k b h)) (truthy va fun b => k b h)) = fun va h => truthy va fun t => bcase t (b l h (fun v h => truthy v fun b => k b h)) (k t h) := by
    funext va h; exact truthy_two va _ fun b => k b h
  rw [e1, e2]
  refine (ha fun t h => bcase t (b l h (fun v h => truthy v fun b => k b h)) (k t h)).trans ?_
  cases t with
  | false => rfl
  | true => exact hb rfl k
theorem tv_or (ha : Tv a l h t) (hb : t = false → Tv b l h u) : Tv (xor a b) l h (bcase t true u) := fun k => by
  have e1 : xor a b l h (fun v h => truthy v fun b => k b h) = a l h (fun va h => truthy va fun t => bcase t (truthy va fun b => k b h) (b l h (fun v h => truthy v fun b => k b h))) := rfl
  have e2 : (fun (va : V) (h : H) => truthy va fun t => bcase t (truthy va fun b => k b h) (b l h (fun v h => truthy v fun b => k b h))) = fun va h => truthy va fun t => bcase t (k t h) (b l h (fun v h => truthy v fun b => k b h)) := by
    funext va h; exact truthy_two' va _ fun b => k b h
  rw [e1, e2]
  refine (ha fun t h => bcase t (k t h) (b l h (fun v h => truthy v fun b => k b h))).trans ?_
  cases t with
  | true => rfl
  | false => exact hb rfl k
theorem ev_tnot (ha : Tv a l h t) : Ev (xnot a) l h (.bool (bnt t)) := fun k => ha fun b h => k (.bool (bnt b)) h
theorem tv_not (ha : Tv a l h t) : Tv (xnot a) l h (bnt t) := tv_bool (ev_tnot ha)
theorem ev_attrN {n j : Nat} {fs : List V} (ha : Ev a l h (.ref n)) (hn : h.t.get n = .inst fs) (hx : getV fs j = v) (hv : v ≠ .unb) : Ev (xattr a j) l h v := ev_attr ha hn hx hv
theorem ev_pk {n p len : Nat} (ha : Ev a l h (.ref n)) (hb : Ev b l h (N j)) (hn : h.t.getS n = .pk p len) (hj : j < len) (hl : len ≤ 1000000) : Ev (xsub a b) l h (N (digP p (65536 ^ j))) := fun k => by
  show a l h _ = _
  rw [ha]
  show b l h _ = _
  rw [hb]
  show soCase (getS h n) _ _ = _
  rw [show getS h n = .pk p len from hn]
  show bcase (Nat.ble j 1000000) (bcase (Nat.ble (j + 1) len) _ false) false = _
  rw [Nat.ble_eq_true_of_le (by (first | lia | omega) : j ≤ 1000000), Nat.ble_eq_true_of_le (by (first | lia | omega) : j + 1 ≤ len)]
  rfl
theorem ev_itemN {n j : Nat} {xs : List V} (ha : Ev a l h (.ref n)) (hb : Ev b l h (N j)) (hn : h.t.get n = .list xs) (hx : xs[j]? = some v) (hv : v ≠ .unb) (hj : j ≤ 1000000) : Ev (xsub a b) l h v := ev_item ha hb hn hx hv hj
theorem ev_tupN {j : Nat} {xs : List V} (ha : Ev a l h (.tup xs)) (hb : Ev b l h (N j)) (hx : xs[j]? = some v) (hv : v ≠ .unb) (hj : j ≤ 1000000) : Ev (xsub a b) l h v := fun k => by
  show a l h _ = _
  rw [ha]
  show b l h _ = _
  rw [hb]
  show bcase (Nat.ble j 1000000) (known (getV xs j) _) false = _
  rw [Nat.ble_eq_true_of_le hj, getV_eq, hx]
  exact known_eq hv (fun v => k v h)
theorem ev_lenL {n : Nat} {xs : List V} (ha : Ev a l h (.ref n)) (hn : h.t.get n = .list xs) (hl : xs.length ≤ 1000000) : Ev (xlen a) l h (N xs.length) := fun k => by
  show a l h _ = _
  rw [ha]
  show asRef (.ref n) (fun n => @AO.rec (fun _ => Bool) false _ (fun _ _ => false) (fun _ => false) (getT h n)) = _
  show @AO.rec (fun _ => Bool) false _ (fun _ _ => false) (fun _ => false) (getT h n) = _
  rw [show getT h n = .list xs from hn]
  show bcase (Nat.ble (lenV xs) 1000000) (k (.int (.ofNat (lenV xs))) h) false = _
  rw [lenV_eq, Nat.ble_eq_true_of_le hl]; rfl
theorem ev_lenP {n p len : Nat} (ha : Ev a l h (.ref n)) (hn : h.t.getS n = .pk p len) (hl : len ≤ 1000000) : Ev (xlen a) l h (N len) := by
  have := ev_lenL (xs := unpk len p) ha (by show SO.view _ = _; rw [hn]; rfl) (by rw [unpk_len]; exact hl)
  rwa [unpk_len] at this
theorem ev_tup (hr : Evs r l h vs) (hl : vs.length ≤ 1000000) : Ev (xtup r) l h (.tup vs) := fun k => by
  show r l h _ = _
  rw [hr]
  show bcase (Nat.ble (lenV vs) 1000000) _ false = _
  rw [lenV_eq, Nat.ble_eq_true_of_le hl]; rfl
theorem ev_range1 (ha : Ev a l h (N i)) (hi : i < 2 ^ 60) : Ev (xrange1 a) l h (.range (.ofNat 0) (.ofNat i) (.ofNat 1)) := fun k => by
  show a l h _ = _
  rw [ha]
  show small (.ofNat i) _ false = _
  rw [small_in (by simp only [Int.ofNat_eq_natCast]; (first | lia | omega)) (by simp only [Int.ofNat_eq_natCast]; (first | lia | omega))]
-- lists of numbers: is it in?
noncomputable def nats (xs : List Nat) : List V := xs.map N
noncomputable def memN (i : Nat) (xs : List Nat) : Bool := @List.rec Nat (fun _ => Bool) false (fun x _ ih => bcase (Nat.beq x i) true ih) xs
theorem allInts_nats : ∀ xs : List Nat, allInts (nats xs) = true
  | [] => rfl
  | x :: xs => allInts_nats xs
theorem memInts_nats (i : Nat) : ∀ (xs : List Nat) (k : Bool → Bool), memInts (.ofNat i) (nats xs) k = k (memN i xs)
  | [], k => rfl
  | x :: xs, k => by
    show bcase (Nat.beq x i) (bcase (allInts (nats xs)) (k true) false) (memInts (.ofNat i) (nats xs) k) = k (bcase (Nat.beq x i) true (memN i xs))
    rw [allInts_nats, memInts_nats i xs k]
    cases Nat.beq x i <;> rfl
theorem ev_inL {n : Nat} {xs : List Nat} (ha : Ev a l h (N i)) (hb : Ev b l h (.ref n)) (hn : h.t.get n = .list (nats xs)) : Ev (xin a b) l h (.bool (memN i xs)) := fun k => by
  show a l h _ = _
  rw [ha]
  show b l h _ = _
  rw [hb]
  show objCase (getT h n) _ _ _ = _
  rw [show getT h n = .list (nats xs) from hn]
  exact memInts_nats i xs fun r => k (.bool r) h
theorem ev_notin (x : Ev (xin a b) l h (.bool t)) : Ev (xnotin a b) l h (.bool (bnt t)) := fun k => x _
end

-- the heap's turns
noncomputable def H.new (h : H) (o : AO) : H := ⟨h.t.put o h.n, h.n + 1, h.r⟩
noncomputable def H.setS (h : H) (n : Nat) (o : SO) : H := ⟨h.t.putS o n, h.n, h.r⟩
noncomputable def H.set (h : H) (n : Nat) (o : AO) : H := ⟨h.t.put o n, h.n, h.r⟩
theorem alloc_eq (o : AO) (h : H) (k : V → H → Bool) : alloc o h k = k (.ref h.n) (h.new o) := by cases h; rfl
theorem sy_store {o : AO} {n : Nat} {h : H} (hr : h.r ≤ n) (k : H → Bool) : store o n h k = k (h.set n o) := by
  cases h with
  | mk t m r =>
    show bcase (Nat.ble r n) (k ⟨t.put o n, m, r⟩) false = _
    rw [Nat.ble_eq_true_of_le hr]; rfl
theorem sy_storeS {o : SO} {n : Nat} {h : H} (hr : h.r ≤ n) (k : H → Bool) : storeS o n h k = k (h.setS n o) := by
  cases h with
  | mk t m r =>
    show bcase (Nat.ble r n) (k ⟨t.putS o n, m, r⟩) false = _
    rw [Nat.ble_eq_true_of_le hr]; rfl
theorem new_getS (h : H) (o : AO) (m : Nat) : (h.new o).t.getS m = if h.n = m then .ob o else h.t.getS m := tget_putS _ _ _ _
theorem set_getS (h : H) (n : Nat) (o : AO) (m : Nat) : (h.set n o).t.getS m = if n = m then .ob o else h.t.getS m := tget_putS _ _ _ _
theorem setS_getS (h : H) (n : Nat) (o : SO) (m : Nat) : (h.setS n o).t.getS m = if n = m then o else h.t.getS m := tget_putS _ _ _ _

-- statements
inductive Out where
  | nx (l : Loc) (h : H) | rt (v : V) (h : H) | bk (l : Loc) (h : H)
noncomputable def Out.ap (kn : KN) (kr : KR) (kb : KN) : Out → Bool
  | .nx l h => kn l h | .rt v h => kr v h | .bk l h => kb l h
noncomputable def Ru (s : XS) (l : Loc) (h : H) (o : Out) : Prop := ∀ kn kr kb kc, s l h kn kr kb kc = o.ap kn kr kb
section
variable {l l1 l2 : Loc} {h h1 h2 : H} {a b : XS} {c e o q : XE} {v w : V} {n i j m : Nat} {t : Bool} {r : XL} {vs xs : List V} {f : Fn} {p : Out}
theorem ru_seq (x : Ru a l h (.nx l1 h1)) (y : Ru b l1 h1 p) : Ru (sseq a b) l h p := fun kn kr kb kc => (x _ kr kb kc).trans (y kn kr kb kc)
theorem ru_seqr (x : Ru a l h (.rt v h1)) : Ru (sseq a b) l h (.rt v h1) := fun kn kr kb kc => x _ kr kb kc
theorem ru_seqb (x : Ru a l h (.bk l1 h1)) : Ru (sseq a b) l h (.bk l1 h1) := fun kn kr kb kc => x _ kr kb kc
theorem ru_pass : Ru spass l h (.nx l h) := fun _ _ _ _ => rfl
theorem ru_break : Ru sbreak l h (.bk l h) := fun _ _ _ _ => rfl
theorem ru_set (x : Ex e l h v h1) (el : setV v l n = l1) : Ru (sset n e) l h (.nx l1 h1) := fun kn kr kb kc => by
  show e l h _ = _
  rw [x, setK_eq, el]; rfl
theorem ru_ret (x : Ex e l h v h1) : Ru (sret e) l h (.rt v h1) := fun kn kr kb kc => x _
theorem ru_expr (x : Ex e l h v h1) : Ru (sexpr e) l h (.nx l h1) := fun kn kr kb kc => x _
theorem ru_ifT (x : Tv c l h true) (y : Ru a l h p) : Ru (sif c a b) l h p := fun kn kr kb kc => (x fun t h => bcase t (a l h kn kr kb kc) (b l h kn kr kb kc)).trans (y kn kr kb kc)
theorem ru_ifF (x : Tv c l h false) (y : Ru b l h p) : Ru (sif c a b) l h p := fun kn kr kb kc => (x fun t h => bcase t (a l h kn kr kb kc) (b l h kn kr kb kc)).trans (y kn kr kb kc)
theorem ru_aug {op : Op} (hl : getV l n = N i) (x : Ev e l h (N j)) (ho : ∀ k, op (.ofNat i) (.ofNat j) k = k (.ofNat m)) (el : setV (N m) l n = l1) : Ru (saug n op e) l h (.nx l1 h) := fun kn kr kb kc => by
  show known (getV l n) _ = _
  rw [hl]
  show e l h _ = _
  rw [x]
  show op (.ofNat i) (.ofNat j) _ = _
  rw [ho, setK_eq, el]; rfl
theorem ru_unpack {is : List Nat} (x : Ex e l h (.tup vs) h1) (hs : ∀ k, sets is vs l k = k l1) : Ru (sunpack is e) l h (.nx l1 h1) := fun kn kr kb kc => (x _).trans (hs _)
theorem ex_nil : Ex (xlist enil) l h (.ref h.n) (h.new (.list [])) := fun k => alloc_eq _ _ _
theorem ex_dict : Ex xdict l h (.ref h.n) (h.new (.dict 0 [])) := fun k => alloc_eq _ _ _
theorem asList_eq {n : Nat} {xs : List V} (hn : h.t.get n = .list xs) (k : Nat → List V → Bool) : asList (.ref n) h k = k n xs := by
  show @AO.rec (fun _ => Bool) false _ (fun _ _ => false) (fun _ => false) (getT h n) = _
  rw [show getT h n = .list xs from hn]
theorem ex_append (ho : Ev o l h (.ref n)) {ys : List V} (hn : h.t.get n = .list ys) (he : Ex e l h v h1) (hn1 : h1.t.get n = .list xs) (hl : xs.length ≤ 1000000) (hr : h1.r ≤ n) : Ex (xappend o e) l h .none (h1.set n (.list (xs ++ [v]))) := fun k => by
  show o l h _ = _
  rw [ho]
  show asList (.ref n) h _ = _
  rw [asList_eq hn]
  show e l h _ = _
  rw [he]
  show asList (.ref n) h1 _ = _
  rw [asList_eq hn1, lenV_eq, Nat.ble_eq_true_of_le hl]
  show snocK v xs _ = _
  rw [snocK_eq, sy_store hr]
theorem ru_append (ho : Ev o l h (.ref n)) (he : Ev e l h v) (hn : h.t.get n = .list xs) (hl : xs.length ≤ 1000000) (hr : h.r ≤ n) : Ru (sexpr (xappend o e)) l h (.nx l (h.set n (.list (xs ++ [v])))) := ru_expr (ex_append ho hn he.ex hn hl hr)
theorem ru_subP {z len : Nat} (he : Ev e l h (N m)) (ho : Ev o l h (.ref n)) (hq : Ev q l h (N j)) (hn : h.t.getS n = .pk z len) (hj : j < len) (hl : len ≤ 1000000) (hm : m < 65536) (hr : h.r ≤ n) :
    Ru (ssub o q e) l h (.nx l (h.setS n (.pk (setP z (65536 ^ j) m) len))) := fun kn kr kb kc => by
  show e l h _ = _
  rw [he]
  show o l h _ = _
  rw [ho]
  show q l h _ = _
  rw [hq]
  show soCase (getS h n) _ _ = _
  rw [show getS h n = .pk z len from hn]
  show bcase (Nat.ble j 1000000) (bcase (Nat.ble (j + 1) len) (bcase (Nat.ble (m + 1) 65536) (forceN _ _) false) false) false = _
  rw [Nat.ble_eq_true_of_le (by (first | lia | omega) : j ≤ 1000000), Nat.ble_eq_true_of_le (by (first | lia | omega) : j + 1 ≤ len), Nat.ble_eq_true_of_le (by (first | lia | omega) : m + 1 ≤ 65536)]
  show forceN (setP z (Nat.pow 65536 j) m) (fun p => storeS (.pk p len) n h fun h => kn l h) = _
  rw [forceN_eq, sy_storeS hr]; rfl
theorem fc_fn {unbs : List V} {k : Nat} (hl : Nat.beq (lenV vs) k = true) (x : Ru a (vs ++ unbs) h (.rt v h1)) : Fc (fn k unbs a) vs h v h1 := fun kk => by
  show bcase (Nat.beq (lenV vs) k) _ false = _
  rw [hl]
  exact x _ _ _ _

-- loops
theorem fr_succ {tgt : Tgt} {kn : KN} {kr : KR} (st : Int) (k : Nat) (i : Int) : forRange tgt a kn kr st (k + 1) i = fun l h => tgt (.int i) l fun l => a l h (forRange tgt a kn kr st k (iadd i st)) kr kn (forRange tgt a kn kr st k (iadd i st)) := rfl
theorem fl_succ {tgt : Tgt} {kn : KN} {kr : KR} (nn k i : Nat) (l : Loc) (h : H) : forList tgt a kn kr nn (k + 1) i l h = objCase (getT h nn) (fun xs => @List.rec V (fun _ => Bool) (kn l h) (fun v _ _ => tgt v l fun l => a l h (forList tgt a kn kr nn k (Nat.succ i)) kr kn (forList tgt a kn kr nn k (Nat.succ i))) (dropV xs i)) (fun _ _ => false) (fun _ => false) := rfl
noncomputable def Tset (t : Tgt) (v : V) (l l1 : Loc) : Prop := ∀ k, t v l k = k l1
theorem ts_var (el : setV v l n = l1) : Tset (tvar n) v l l1 := fun k => by show setK v l n k = _; rw [setK_eq, el]
theorem ru_tup2 {t : Tgt} {x y : V} {l3 l4 : Loc} (hc : Ev c l h (.tup [x, y])) (t1 : Tset t x l l1) (r1 : Ru a l1 h (.nx l2 h1)) (t2 : Tset t y l2 l3) (r2 : Ru a l3 h1 (.nx l4 h2)) : Ru (sfor t c a) l h (.nx l4 h2) := fun kn kr kb kc => by
  show c l h _ = _
  rw [hc]
  show t x l _ = _
  rw [t1]
  show a l1 h _ _ _ _ = _
  rw [r1]
  show t y l2 _ = _
  rw [t2]
  show a l3 h1 _ _ _ _ = _
  rw [r2]; rfl
theorem ru_tup2g {t : Tgt} {x y : V} {l3 l4 : Loc} (hc : Ev c l h (.tup [x, y])) (t1 : Tset t x l l1) (r1 : Ru a l1 h (.nx l2 h1)) (t2 : Tset t y l2 l3) (r2 : Ru a l3 h1 (.nx l4 h2)) : Ru (sfor t c a) l h (.nx l4 h2) := ru_tup2 hc t1 r1 t2 r2
theorem ru_forRange {t : Tgt} {I : Nat → Loc → H → Prop} {st : Int} {ps : List Nat}
    (step : ∀ k l h, (hk : k < ps.length) → I k l h → ∃ l1 l' h', Tset t (N ps[k]) l l1 ∧ Ru a l1 h (.nx l' h') ∧ I (k + 1) l' h') :
    ∀ (d k : Nat) (i : Int) (l : Loc) (h : H), k + d = ps.length → (∀ j (hj : k + j < ps.length), i + st * (j : Int) = (ps[k + j] : Nat)) → I k l h →
      ∃ l' h', I ps.length l' h' ∧ ∀ kn kr, forRange t a kn kr st d i l h = kn l' h'
  | 0, k, i, l, h, hd, hv, hi => ⟨l, h, (by (first | lia | omega) : k = ps.length) ▸ hi, fun _ _ => rfl⟩
  | d + 1, k, i, l, h, hd, hv, hi => by
    obtain ⟨l1, l', h', ht, hr, hi'⟩ := step k l h (by (first | lia | omega)) hi
    have hi0 : i = .ofNat ps[k] := by
      have := hv 0 (by (first | lia | omega))
      rw [Int.ofNat_eq_natCast]
      simpa using this
    obtain ⟨l2, h2, hz, e⟩ := ru_forRange (st := st) step d (k + 1) (i + st) l' h' (by (first | lia | omega)) (fun j hj => by
      have := hv (j + 1) (by (first | lia | omega))
      have e : k + 1 + j = k + (j + 1) := by (first | lia | omega)
      rw [show ps[k + 1 + j] = ps[k + (j + 1)] by congr 1]
      rw [← this, Int.natCast_add, Int.mul_add]
      simp only [Int.natCast_one, Int.mul_one]; (first | lia | omega)) hi'
    refine ⟨l2, h2, hz, fun kn kr => ?_⟩
    rw [fr_succ]
    subst hi0
    show t (N ps[k]) l _ = _
    rw [ht, hr]
    show forRange t a kn kr st d (iadd (.ofNat ps[k]) st) l' h' = _
    rw [iadd_eq]
    exact e kn kr
theorem ru_for {t : Tgt} {I : Nat → Loc → H → Prop} {x y st : Int} {ps : List Nat} (hc : Ev c l h (.range x y st)) (hn : rcount x y st = ps.length) (hv : ∀ j (hj : j < ps.length), x + st * (j : Int) = (ps[j] : Nat))
    (h0 : I 0 l h) (step : ∀ k l h, (hk : k < ps.length) → I k l h → ∃ l1 l' h', Tset t (N ps[k]) l l1 ∧ Ru a l1 h (.nx l' h') ∧ I (k + 1) l' h') :
    ∃ l' h', I ps.length l' h' ∧ Ru (sfor t c a) l h (.nx l' h') := by
  obtain ⟨l', h', hi, e⟩ := ru_forRange (a := a) step ps.length 0 x l h (by (first | lia | omega)) (fun j hj => by simpa using hv j (by (first | lia | omega))) h0
  refine ⟨l', h', hi, fun kn kr kb kc => ?_⟩
  show c l h _ = _
  rw [hc]
  show forRange t a kn kr st (rcount x y st) x l h = _
  rw [hn]; exact e kn kr
theorem rcount1 (n : Nat) : rcount (.ofNat 0) (.ofNat n) (.ofNat 1) = n := by
  show Int.toNat (Int.fdiv (iadd (iadd (iadd (.ofNat n) (ineg (.ofNat 0))) (.ofNat 1)) (.negSucc 0)) (.ofNat 1)) = n
  rw [iadd_eq, iadd_eq, iadd_eq, ineg_eq, Int.fdiv_eq_ediv_of_nonneg _ (by decide)]
  simp only [Int.ofNat_eq_natCast, Int.negSucc_eq]
  (first | lia | omega)
theorem ru_for1 {x : Nat} {I : Nat → Loc → H → Prop} (hc : Ev c l h (.range (.ofNat 0) (.ofNat n) (.ofNat 1))) (h0 : I 0 l h) (step : ∀ k l h, k < n → I k l h → ∃ l1 l' h', setV (N k) l x = l1 ∧ Ru a l1 h (.nx l' h') ∧ I (k + 1) l' h') :
    ∃ l' h', I n l' h' ∧ Ru (sfor (tvar x) c a) l h (.nx l' h') := by
  have := ru_for (ps := List.range n) (I := I) (t := tvar x) (a := a) hc (by rw [rcount1, List.length_range]) (fun j hj => by simp) h0 (fun k l h hk hi => by
    obtain ⟨l1, l', h', e1, e2, e3⟩ := step k l h (by simpa using hk) hi
    exact ⟨l1, l', h', ts_var (by simpa using e1), e2, e3⟩)
  rwa [List.length_range] at this
theorem list_go {t : Tgt} {I : Nat → Loc → H → Prop} (hx : ∀ i l h, I i l h → h.t.get n = .list xs) (step : ∀ i l h, (hi : i < xs.length) → I i l h → ∃ l1 l' h', Tset t xs[i] l l1 ∧ Ru a l1 h (.nx l' h') ∧ I (i + 1) l' h') :
    ∀ (d i : Nat) (l : Loc) (h : H), i + d = xs.length → I i l h → ∃ l' h', I xs.length l' h' ∧ ∀ kn kr, forList t a kn kr n (d + 1) i l h = kn l' h'
  | 0, i, l, h, hd, hi => ⟨l, h, (by (first | lia | omega) : i = xs.length) ▸ hi, fun kn kr => by
    rw [fl_succ, show getT h n = .list xs from hx _ _ _ hi]
    show @List.rec V (fun _ => Bool) (kn l h) _ (dropV xs i) = _
    rw [dropV_eq, List.drop_eq_nil_of_le (by (first | lia | omega))]⟩
  | d + 1, i, l, h, hd, hi => by
    obtain ⟨l1, l', h', ht, hr, hi'⟩ := step i l h (by (first | lia | omega)) hi
    obtain ⟨l2, h2, hz, e⟩ := list_go hx step d (i + 1) l' h' (by (first | lia | omega)) hi'
    refine ⟨l2, h2, hz, fun kn kr => ?_⟩
    rw [fl_succ, show getT h n = .list xs from hx _ _ _ hi]
    show @List.rec V (fun _ => Bool) (kn l h) _ (dropV xs i) = _
    rw [dropV_eq, List.drop_eq_getElem_cons (by (first | lia | omega) : i < xs.length)]
    show t xs[i] l _ = _
    rw [ht, hr]
    exact e kn kr
theorem ru_list {t : Tgt} {I : Nat → Loc → H → Prop} (hc : Ev c l h (.ref n)) (hx : ∀ i l h, I i l h → h.t.get n = .list xs) (h0 : I 0 l h) (step : ∀ i l h, (hi : i < xs.length) → I i l h → ∃ l1 l' h', Tset t xs[i] l l1 ∧ Ru a l1 h (.nx l' h') ∧ I (i + 1) l' h') :
    ∃ l' h', I xs.length l' h' ∧ Ru (sfor t c a) l h (.nx l' h') := by
  obtain ⟨l', h', hi, e⟩ := list_go (a := a) hx step xs.length 0 l h (by (first | lia | omega)) h0
  refine ⟨l', h', hi, fun kn kr kb kc => ?_⟩
  show c l h _ = _
  rw [hc]
  show objCase (getT h n) _ _ _ = _
  rw [show getT h n = .list xs from hx _ _ _ h0]
  show forList t a kn kr n (Nat.succ (lenV xs)) 0 l h = _
  rw [lenV_eq]; exact e kn kr
theorem ru_wstop {k : Nat} (x : Tv c l h false) : Ru (swhile c a (k + 1)) l h (.nx l h) := fun kn kr kb kc =>
  x fun t h => bcase t (a l h (fun l h => swhile c a k l h kn kr kn kn) kr kn (fun l h => swhile c a k l h kn kr kn kn)) (kn l h)
theorem ru_wnext {k : Nat} (x : Tv c l h true) (y : Ru a l h (.nx l1 h1)) (z : Ru (swhile c a k) l1 h1 (.nx l2 h2)) : Ru (swhile c a (k + 1)) l h (.nx l2 h2) := fun kn kr kb kc =>
  (x fun t h => bcase t (a l h (fun l h => swhile c a k l h kn kr kn kn) kr kn (fun l h => swhile c a k l h kn kr kn kn)) (kn l h)).trans ((y _ _ _ _).trans (z kn kr kn kn))
theorem ru_wbreak {k : Nat} (x : Tv c l h true) (y : Ru a l h (.bk l1 h1)) : Ru (swhile c a (k + 1)) l h (.nx l1 h1) := fun kn kr kb kc =>
  (x fun t h => bcase t (a l h (fun l h => swhile c a k l h kn kr kn kn) kr kn (fun l h => swhile c a k l h kn kr kn kn)) (kn l h)).trans (y _ _ _ _)
end
local macro_rules | `(tactic| walk_at "kp_ev") => `(tactic| first
    | (with_reducible first
      | exact ev_k0
      | exact ev_k1
      | exact ev_k2
      | exact ev_k3
      | exact ev_k4
      | exact ev_k5
      | exact ev_k7
      | exact ev_k8
      | exact ev_k15
      | exact ev_lit)
    | ((with_reducible refine nv_loc ?_); first | rfl | assumption)
    | ((with_reducible refine ev_ref ?_); first | rfl | assumption)
    | ((with_reducible refine ev_bool ?_); first | rfl | assumption)
    | (with_reducible first
      | refine ev_ceq ?_ ?_
      | refine ev_cne ?_ ?_
      | refine ev_clt ?_ ?_
      | refine ev_cle ?_ ?_
      | refine ev_cgt ?_ ?_
      | refine ev_cge ?_ ?_
      | refine tv_and ?_ (fun _ => ?_)
      | refine tv_or ?_ (fun _ => ?_)
      | refine tv_not ?_
      | refine tv_bin ?_
      | refine tv_bool ?_
      | refine ev_notin ?_
      | refine ev_bin ?_ ?_ n_add
      | refine ev_bin ?_ ?_ n_and
      | refine ev_bin ?_ ?_ n_or
      | refine ev_bin ?_ ?_ n_shr
      | refine ev_bin ?_ ?_ n_xor
      | refine ev_bin ?_ ?_ (fun k => n_sub k ?_)
      | refine ev_bin ?_ ?_ (fun k => n_mul k ?_)
      | refine ev_bin ?_ ?_ (fun k => n_div k ?_ ?_)
      | refine ev_bin ?_ ?_ (fun k => n_mod k ?_ ?_)
      | refine ev_bin ?_ ?_ (fun k => n_shl k ?_ ?_)
      | refine evs_cons ?_ ?_
      | exact evs_nil))
-- part Sy2
-- Sy2: the board and the small functions (own work)
structure GM where
  fl : Nat
  rk : Nat
  sz : Nat
  full : Nat
  db : Bool
  kg : Nat
  pn : Nat
  nb : List (List Nat)
structure Sh (G : GM) : Prop where
  sh : (G.fl = 2 ∧ G.rk = 3 ∧ G.sz = 6) ∨ (G.fl = 2 ∧ G.rk = 4 ∧ G.sz = 8) ∨ (G.fl = 3 ∧ G.rk = 3 ∧ G.sz = 9) ∨ (G.fl = 2 ∧ G.rk = 5 ∧ G.sz = 10)
theorem Sh.bd {G : GM} (s : Sh G) : 2 ≤ G.fl ∧ G.fl ≤ 3 ∧ 3 ≤ G.rk ∧ G.rk ≤ 5 ∧ 6 ≤ G.sz ∧ G.sz ≤ 10 := by
  rcases s.sh with ⟨a, b, c⟩ | ⟨a, b, c⟩ | ⟨a, b, c⟩ | ⟨a, b, c⟩ <;> (first | lia | omega)
-- what stays where it is, but for one place
noncomputable def Kp (b : Nat) (h h' : H) : Prop := h.n ≤ h'.n ∧ h'.r = h.r ∧ ∀ m, m < h.n → m ≠ b → h'.t.getS m = h.t.getS m
theorem Kp.refl (b : Nat) (h : H) : Kp b h h := ⟨Nat.le_refl _, rfl, fun _ _ _ => rfl⟩
theorem Kp.trans {b c : Nat} {h h1 h2 : H} (x : Kp b h h1) (y : Kp c h1 h2) (hc : c = b ∨ h.n ≤ c) : Kp b h h2 :=
  ⟨Nat.le_trans x.1 y.1, y.2.1.trans x.2.1, fun m hm hb => (y.2.2 m (Nat.lt_of_lt_of_le hm x.1) (by rcases hc with rfl | hc <;> (first | lia | omega))).trans (x.2.2 m hm hb)⟩
theorem Kp.wk {b c : Nat} {h h' : H} (x : Kp c h h') (hc : h.n ≤ c) : Kp b h h' := ⟨x.1, x.2.1, fun m hm _ => x.2.2 m hm (by (first | lia | omega))⟩
theorem Kp.get {b : Nat} {h h' : H} (x : Kp b h h') {m : Nat} (hm : m < h.n) (hb : m ≠ b) : h'.t.get m = h.t.get m := by
  show SO.view _ = SO.view _
  rw [x.2.2 m hm hb]
theorem Kp.new (b : Nat) (h : H) (o : AO) : Kp b h (h.new o) := ⟨Nat.le_succ _, rfl, fun m hm _ => by rw [new_getS, if_neg (by (first | lia | omega))]⟩
theorem Kp.set (b : Nat) (h : H) (o : AO) : Kp b h (h.set b o) := ⟨Nat.le_refl _, rfl, fun m _ hb => by rw [set_getS, if_neg (by (first | lia | omega))]⟩
theorem Kp.setS (b : Nat) (h : H) (o : SO) : Kp b h (h.setS b o) := ⟨Nat.le_refl _, rfl, fun m _ hb => by rw [setS_getS, if_neg (by (first | lia | omega))]⟩
noncomputable def Ow (b : Nat) (h : H) (n : Nat) : Prop := n < h.n ∧ n ≠ b
theorem Ow.kp {b : Nat} {h h' : H} {n : Nat} (x : Ow b h n) (y : Kp b h h') : Ow b h' n := ⟨Nat.lt_of_lt_of_le x.1 y.1, x.2⟩
theorem Ow.get {b : Nat} {h h' : H} {n : Nat} (x : Ow b h n) (y : Kp b h h') : h'.t.get n = h.t.get n := y.get x.1 x.2
noncomputable def kgN (G : GM) (i : Nat) : Nat := digP G.kg (Nat.pow (nat_lit 65536) i)
noncomputable def pnN (G : GM) (i : Nat) : Nat := digP G.pn (Nat.pow (nat_lit 65536) i)
structure GeoF (G : GM) (b : Nat) (h : H) (g kr pr p0 : Nat) : Prop where
  own : Ow b h g ∧ Ow b h kr ∧ Ow b h pr ∧ Ow b h p0
  fs : ∃ fs, h.t.get g = .inst fs ∧ getV fs 0 = N G.fl ∧ getV fs 1 = N G.rk ∧ getV fs 2 = N G.sz ∧ getV fs 3 = N G.full ∧ getV fs 4 = .bool G.db ∧ getV fs 9 = .ref kr ∧ getV fs 11 = .ref pr
  kl : ∃ xs, h.t.get kr = .list xs ∧ ∀ i, i < G.sz → xs[i]? = some (N (kgN G i))
  pl : ∃ r, h.t.get pr = .list (.ref p0 :: r)
  pw : ∃ xs, h.t.get p0 = .list xs ∧ ∀ i, i < G.sz → xs[i]? = some (N (pnN G i))
theorem GeoF.kp {G : GM} {b : Nat} {h h' : H} {g kr pr p0 : Nat} (x : GeoF G b h g kr pr p0) (y : Kp b h h') : GeoF G b h' g kr pr p0 := by
  obtain ⟨o1, o2, o3, o4⟩ := x.own
  refine ⟨⟨o1.kp y, o2.kp y, o3.kp y, o4.kp y⟩, ?_, ?_, ?_, ?_⟩
  · rw [o1.get y]; exact x.fs
  · rw [o2.get y]; exact x.kl
  · rw [o3.get y]; exact x.pl
  · rw [o4.get y]; exact x.pw
theorem GeoF.to {G : GM} {b c : Nat} {h : H} {g kr pr p0 : Nat} (x : GeoF G b h g kr pr p0) (y : h.n ≤ c) : GeoF G c h g kr pr p0 := by
  obtain ⟨⟨a1, _⟩, ⟨a2, _⟩, ⟨a3, _⟩, ⟨a4, _⟩⟩ := x.own
  exact ⟨⟨⟨a1, by (first | lia | omega)⟩, ⟨a2, by (first | lia | omega)⟩, ⟨a3, by (first | lia | omega)⟩, ⟨a4, by (first | lia | omega)⟩⟩, x.fs, x.kl, x.pl, x.pw⟩
noncomputable def rowOf (xs : List (List Nat)) : Nat → List Nat := @List.rec (List Nat) (fun _ => Nat → List Nat) (fun _ => []) (fun x _ ih i => @Nat.rec (fun _ => List Nat) x (fun j _ => ih j) i) xs
noncomputable def nbN (G : GM) (i : Nat) : List Nat := rowOf G.nb i
structure RowsF (G : GM) (b : Nat) (h : H) (s : Nat) (ρ : Nat → Nat) : Prop where
  own : Ow b h s ∧ ∀ i, i < G.sz → Ow b h (ρ i)
  rs : ∃ xs, h.t.get s = .list xs ∧ ∀ i, i < G.sz → xs[i]? = some (.ref (ρ i))
  row : ∀ i, i < G.sz → h.t.get (ρ i) = .list (nats (nbN G i))
theorem RowsF.kp {G : GM} {b : Nat} {h h' : H} {s : Nat} {ρ : Nat → Nat} (x : RowsF G b h s ρ) (y : Kp b h h') : RowsF G b h' s ρ :=
  ⟨⟨x.own.1.kp y, fun i hi => (x.own.2 i hi).kp y⟩, by rw [x.own.1.get y]; exact x.rs, fun i hi => by rw [(x.own.2 i hi).get y]; exact x.row i hi⟩
theorem RowsF.to {G : GM} {b c : Nat} {h : H} {s : Nat} {ρ : Nat → Nat} (x : RowsF G b h s ρ) (y : h.n ≤ c) : RowsF G c h s ρ :=
  ⟨⟨⟨x.own.1.1, by have := x.own.1.1; (first | lia | omega)⟩, fun i hi => ⟨(x.own.2 i hi).1, by have := (x.own.2 i hi).1; (first | lia | omega)⟩⟩, x.rs, x.row⟩

section
variable {G : GM} {b : Nat} {h : H} {g kr pr p0 : Nat} {l : Loc}
theorem GeoF.e0 (F : GeoF G b h g kr pr p0) (e : getV l 0 = .ref g) : Ev (xattr (xloc 0) 0) l h (N G.fl) := by
  obtain ⟨fs, q, q0, -⟩ := F.fs
  exact ev_attr (ev_ref e) q q0 (fun z => by cases z)
theorem GeoF.e1 (F : GeoF G b h g kr pr p0) (e : getV l 0 = .ref g) : Ev (xattr (xloc 0) 1) l h (N G.rk) := by
  obtain ⟨fs, q, -, q0, -⟩ := F.fs
  exact ev_attr (ev_ref e) q q0 (fun z => by cases z)
theorem GeoF.e2 (F : GeoF G b h g kr pr p0) (e : getV l 0 = .ref g) : Ev (xattr (xloc 0) 2) l h (N G.sz) := by
  obtain ⟨fs, q, -, -, q0, -⟩ := F.fs
  exact ev_attr (ev_ref e) q q0 (fun z => by cases z)
theorem GeoF.e3 (F : GeoF G b h g kr pr p0) (e : getV l 0 = .ref g) : Ev (xattr (xloc 0) 3) l h (N G.full) := by
  obtain ⟨fs, q, -, -, -, q0, -⟩ := F.fs
  exact ev_attr (ev_ref e) q q0 (fun z => by cases z)
theorem GeoF.e4 (F : GeoF G b h g kr pr p0) (e : getV l 0 = .ref g) : Ev (xattr (xloc 0) 4) l h (.bool G.db) := by
  obtain ⟨fs, q, -, -, -, -, q0, -⟩ := F.fs
  exact ev_attr (ev_ref e) q q0 (fun z => by cases z)
theorem GeoF.ek (F : GeoF G b h g kr pr p0) (s : Sh G) {e : XE} {i : Nat} (e0 : getV l 0 = .ref g) (hi : Ev e l h (N i)) (hl : i < G.sz) : Ev (xsub (xattr (xloc 0) 9) e) l h (N (kgN G i)) := by
  obtain ⟨fs, q, -, -, -, -, -, q0, -⟩ := F.fs
  obtain ⟨xs, hx, hg⟩ := F.kl
  have := s.bd
  exact ev_itemN (ev_attr (ev_ref e0) q q0 (fun z => by cases z)) hi hx (hg i hl) (fun z => by cases z) (by (first | lia | omega))
theorem GeoF.ep (F : GeoF G b h g kr pr p0) (s : Sh G) {e : XE} {i : Nat} (e0 : getV l 0 = .ref g) (hi : Ev e l h (N i)) (hl : i < G.sz) : Ev (xsub (xsub (xattr (xloc 0) 11) (xlit (.int (.ofNat 0)))) e) l h (N (pnN G i)) := by
  obtain ⟨fs, q, -, -, -, -, -, -, q0⟩ := F.fs
  obtain ⟨xs, hx, hg⟩ := F.pw
  obtain ⟨r, hr⟩ := F.pl
  have := s.bd
  exact ev_itemN (ev_itemN (j := 0) (ev_attr (ev_ref e0) q q0 (fun z => by cases z)) ev_lit hr rfl (fun z => by cases z) (by (first | lia | omega))) hi hx (hg i hl) (fun z => by cases z) (by (first | lia | omega))
theorem RowsF.at_ {s : Nat} {ρ : Nat → Nat} (F : RowsF G b h s ρ) (sh : Sh G) {a e : XE} {i : Nat} (ha : Ev a l h (.ref s)) (hi : Ev e l h (N i)) (hl : i < G.sz) : Ev (xsub a e) l h (.ref (ρ i)) := by
  obtain ⟨xs, hx, hg⟩ := F.rs
  have := sh.bd
  exact ev_itemN ha hi hx (hg i hl) (fun z => by cases z) (by (first | lia | omega))
end

noncomputable def placeN (G : GM) (pw : Nat) : Nat := Nat.sub (Nat.add (Nat.mul (Nat.mod pw G.fl) (Nat.sub G.rk (nat_lit 2))) (Nat.div pw G.fl)) (nat_lit 1)
noncomputable def idxN (G : GM) (sd st pw wk : Nat) : Nat := Nat.add (Nat.mul (Nat.add (Nat.mul (Nat.add (Nat.mul (placeN G pw) (nat_lit 2)) sd) G.sz) wk) G.sz) st
noncomputable def lenN (G : GM) : Nat := Nat.mul (Nat.mul (Nat.mul (Nat.mul (Nat.div (Nat.add G.fl (nat_lit 1)) (nat_lit 2)) (Nat.sub G.rk (nat_lit 2))) (nat_lit 2)) G.sz) G.sz
theorem placeN_eq (G : GM) (pw : Nat) : placeN G pw = pw % G.fl * (G.rk - 2) + pw / G.fl - 1 := rfl
theorem idxN_eq (G : GM) (sd st pw wk : Nat) : idxN G sd st pw wk = ((placeN G pw * 2 + sd) * G.sz + wk) * G.sz + st := rfl
theorem lenN_eq (G : GM) : lenN G = (G.fl + 1) / 2 * (G.rk - 2) * 2 * G.sz * G.sz := rfl
section
variable {G : GM} {b : Nat} {h : H} {g kr pr p0 : Nat} {l : Loc} {sd st pw wk : Nat}
theorem lenN_le (s : Sh G) : lenN G ≤ 600 ∧ 0 < lenN G := by
  rw [lenN_eq]
  rcases s.sh with ⟨a, b, c⟩ | ⟨a, b, c⟩ | ⟨a, b, c⟩ | ⟨a, b, c⟩ <;> rw [a, b, c] <;> decide
theorem muladd_lt {a b A n : Nat} (ha : a < A) (hb : b < n) : a * n + b < A * n := by
  have : (a + 1) * n ≤ A * n := Nat.mul_le_mul_right n ha
  rw [Nat.succ_mul] at this
  exact Nat.lt_of_lt_of_le (Nat.add_lt_add_left hb _) this
theorem Sh.zz (s : Sh G) : G.sz = G.rk * G.fl := by rcases s.sh with ⟨x, y, z⟩ | ⟨x, y, z⟩ | ⟨x, y, z⟩ | ⟨x, y, z⟩ <;> rw [x, y, z]
theorem Sh.f0 (s : Sh G) : 0 < G.fl := Nat.lt_of_lt_of_le (by decide) s.bd.1
theorem rk_div (s : Sh G) {x : Nat} : (G.fl ≤ x ∧ x < G.sz - G.fl) ↔ (1 ≤ x / G.fl ∧ x / G.fl < G.rk - 1) := by
  rw [Nat.one_le_div_iff s.f0, Nat.div_lt_iff_lt_mul s.f0, Nat.sub_mul, Nat.one_mul, ← s.zz]
theorem idx_lt (s : Sh G) (h1 : G.fl ≤ pw) (h2 : pw < G.sz - G.fl) (h3 : pw % G.fl < (G.fl + 1) / 2) (h4 : sd ≤ 1) (h5 : st < G.sz) (h6 : wk < G.sz) : idxN G sd st pw wk < lenN G := by
  rw [lenN_eq, idxN_eq, placeN_eq]
  refine muladd_lt (muladd_lt (muladd_lt ?_ (Nat.lt_succ_of_le h4)) h6) h5
  have q1 : 1 ≤ pw / G.fl := (Nat.one_le_div_iff s.f0).mpr h1
  have q2 : pw / G.fl < G.rk - 1 := by rw [Nat.div_lt_iff_lt_mul s.f0, Nat.sub_mul, Nat.one_mul, ← s.zz]; exact h2
  rw [Nat.add_sub_assoc q1]
  exact muladd_lt h3 (by have := s.bd; clear h1 h2 h3 h4 h5 h6 s; (first | lia | omega))
theorem fc_pawn_files (F : GeoF G b h g kr pr p0) (s : Sh G) : Fc f_pawn_files [.ref g] h (N ((G.fl + 1) / 2)) h := by
  refine fc_fn rfl (ru_ret (Ev.ex ?_))
  (repeat' first | walk_at "kp_ev" | (first | lia | omega) | exact F.e0 rfl)
theorem fc_pawn_place (F : GeoF G b h g kr pr p0) (s : Sh G) (h1 : G.fl ≤ pw) (h2 : pw < 1000) : Fc f_pawn_place [.ref g, N pw] h (N (placeN G pw)) h := by
  have := s.bd
  have q : 1 ≤ pw / G.fl := (Nat.one_le_div_iff (by (first | lia | omega))).mpr h1
  have q2 : pw % G.fl < G.fl := Nat.mod_lt _ (by (first | lia | omega))
  have q3 : 1 ≤ pw % G.fl * (G.rk - 2) + pw / G.fl := by (first | lia | omega)
  rw [placeN_eq]
  refine fc_fn rfl (ru_ret (Ev.ex ?_))
  (repeat' first | walk_at "kp_ev" | (first | lia | omega) | exact F.e0 rfl | exact F.e1 rfl)
theorem place_lt (s : Sh G) (h2 : pw < 1000) : placeN G pw < 2000 := by
  rw [placeN_eq]
  have bd := s.bd
  have a : pw % G.fl * (G.rk - 2) ≤ 3 * 3 := Nat.mul_le_mul (Nat.le_trans (Nat.le_of_lt (Nat.mod_lt _ s.f0)) bd.2.1) (Nat.sub_le_of_le_add (Nat.le_trans bd.2.2.2.1 (by decide)))
  have b : pw / G.fl ≤ pw := Nat.div_le_self _ _
  exact Nat.lt_of_le_of_lt (Nat.sub_le _ _) (Nat.lt_of_le_of_lt (Nat.add_le_add a b) (Nat.lt_trans (Nat.add_lt_add_left h2 _) (by decide)))
theorem fc_kpk_index (F : GeoF G b h g kr pr p0) (s : Sh G) (h1 : G.fl ≤ pw) (h2 : pw < 1000) (h3 : sd < 1000) (h4 : wk < 1000) : Fc f_kpk_index [.ref g, N sd, N st, N pw, N wk] h (N (idxN G sd st pw wk)) h := by
  have := s.bd
  have q := place_lt s h2
  have q1 : (placeN G pw * 2 + sd) * G.sz ≤ 10000 * 10 := Nat.mul_le_mul (by (first | lia | omega)) (by (first | lia | omega))
  rw [idxN_eq]
  refine fc_fn rfl (ru_ret (Ev.ex ?_))
  (repeat' first | walk_at "kp_ev" | (first | lia | omega) | exact F.e0 rfl | exact F.e1 rfl | exact F.e2 rfl | with_reducible refine ev_cl ?_ (fc_pawn_place F s h1 h2))
end
-- part Sy3
-- Sy3: first_result, strong_results, weak_results, classify (own work)
noncomputable def ncase (b : Bool) (t f : Nat) : Nat := @Bool.rec (fun _ => Nat) f t b
theorem ncase_t (x y : Nat) : ncase true x y = x := rfl
theorem ncase_f (x y : Nat) : ncase false x y = y := rfl
theorem bcase_t (x y : Bool) : bcase true x y = x := rfl
theorem bcase_f (x y : Bool) : bcase false x y = y := rfl
theorem ru_if {c : XE} {a b : XS} {l : Loc} {h : H} {t : Bool} {p : Out} (x : Tv c l h t) (y : t = true → Ru a l h p) (z : t = false → Ru b l h p) : Ru (sif c a b) l h p := by
  cases t with
  | true => exact ru_ifT x (y rfl)
  | false => exact ru_ifF x (z rfl)
structure Ok (G : GM) : Prop extends Sh G where
  nb : ∀ i, i < G.sz → ∀ x ∈ nbN G i, x < G.sz
  db : G.db = true → G.rk = 5
-- a pawn on the base's files
noncomputable def Dm (G : GM) (pw : Nat) : Prop := G.fl ≤ pw ∧ pw < G.sz - G.fl ∧ pw % G.fl < (G.fl + 1) / 2
section
variable {G : GM} {pw : Nat}
theorem Dm.ahead (s : Ok G) (d : Dm G pw) (hr : Nat.ble (pw / G.fl + 1) (G.rk - 2) = true) : Dm G (pw + G.fl) := by
  obtain ⟨a, b, c⟩ := d
  have hr := Nat.le_of_ble_eq_true hr
  have q : G.fl ≤ pw + G.fl ∧ pw + G.fl < G.sz - G.fl := by
    rw [rk_div s.toSh, Nat.add_div_right _ s.f0]
    generalize pw / G.fl = q at hr
    clear a b c s
    (first | lia | omega)
  exact ⟨q.1, q.2, by rw [Nat.add_mod_right]; exact c⟩
theorem Dm.ahead2 (s : Ok G) (d : Dm G pw) (hd : G.db = true) (hr : Nat.beq (pw / G.fl) 1 = true) : Dm G (pw + G.fl + G.fl) := by
  obtain ⟨a, b, c⟩ := d
  have q : G.fl ≤ pw + G.fl + G.fl ∧ pw + G.fl + G.fl < G.sz - G.fl := by
    rw [rk_div s.toSh, Nat.add_div_right _ s.f0, Nat.add_div_right _ s.f0, Nat.eq_of_beq_eq_true hr, s.db hd]
    exact ⟨by decide, by decide⟩
  exact ⟨q.1, q.2, by rw [Nat.add_mod_right, Nat.add_mod_right]; exact c⟩
end

noncomputable def bitN (m i : Nat) : Bool := bnt (Nat.beq (Nat.land (Nat.shiftRight m i) (nat_lit 1)) (nat_lit 0))
noncomputable def firstN (G : GM) (sd st pw wk : Nat) : Nat :=
  ncase (bcase (Nat.beq st pw) true (Nat.beq wk pw)) (nat_lit 0)
    (ncase (Nat.beq sd (nat_lit 0))
      (ncase (bitN (pnN G pw) wk) (nat_lit 0)
        (ncase (bcase (Nat.beq (Nat.div pw G.fl) (Nat.sub G.rk (nat_lit 2))) (bcase (bnt (Nat.beq (Nat.add pw G.fl) st)) (bnt (Nat.beq (Nat.add pw G.fl) wk)) false) false)
          (ncase (bcase (bnt (bitN (kgN G wk) (Nat.add pw G.fl))) true (bitN (kgN G st) (Nat.add pw G.fl))) (nat_lit 4) (nat_lit 1))
          (nat_lit 1)))
      (ncase (Nat.beq (Nat.land (kgN G wk) (Nat.lor (kgN G st) (pnN G pw))) (kgN G wk)) (nat_lit 2)
        (ncase (bcase (bitN (kgN G wk) pw) (bnt (bitN (kgN G st) pw)) false) (nat_lit 2) (nat_lit 1))))
theorem firstN_eq (G : GM) (sd st pw wk : Nat) : firstN G sd st pw wk =
  ncase (bcase (Nat.beq st pw) true (Nat.beq wk pw)) 0
    (ncase (Nat.beq sd 0)
      (ncase (bnt (Nat.beq (Nat.land (Nat.shiftRight (pnN G pw) wk) 1) 0)) 0
        (ncase (bcase (Nat.beq (pw / G.fl) (G.rk - 2)) (bcase (bnt (Nat.beq (pw + G.fl) st)) (bnt (Nat.beq (pw + G.fl) wk)) false) false)
          (ncase (bcase (bnt (bnt (Nat.beq (Nat.land (Nat.shiftRight (kgN G wk) (pw + G.fl)) 1) 0))) true (bnt (Nat.beq (Nat.land (Nat.shiftRight (kgN G st) (pw + G.fl)) 1) 0))) 4 1)
          1))
      (ncase (Nat.beq (Nat.land (kgN G wk) (Nat.lor (kgN G st) (pnN G pw))) (kgN G wk)) 2
        (ncase (bcase (bnt (Nat.beq (Nat.land (Nat.shiftRight (kgN G wk) pw) 1) 0)) (bnt (bnt (Nat.beq (Nat.land (Nat.shiftRight (kgN G st) pw) 1) 0))) false) 2 1))) := rfl
section
variable {G : GM} {b : Nat} {h : H} {g kr pr p0 : Nat} {l : Loc} {sd st pw wk : Nat}
theorem fc_first (F : GeoF G b h g kr pr p0) (s : Sh G) (h1 : st < G.sz) (h2 : pw < G.sz) (h3 : wk < G.sz) : Fc f_first_result [.ref g, N sd, N st, N pw, N wk] h (N (firstN G sd st pw wk)) h := by
  have := s.bd
  rw [firstN_eq]
  refine fc_fn rfl ?_
  refine ru_seq (ru_set (v := N (kgN G wk)) (F.ek s rfl (nv_loc rfl) h3).ex rfl) ?_
  refine ru_seq (ru_set (v := N (kgN G st)) (F.ek s rfl (nv_loc rfl) h1).ex rfl) ?_
  by_cases e1 : bcase (Nat.beq st pw) true (Nat.beq wk pw) = true
  · rw [e1, ncase_t]
    exact ru_seqr (ru_ifT (e1 ▸ by (repeat' first | walk_at "kp_ev" | (first | lia | omega))) (ru_ret ev_k0.ex))
  rw [Bool.not_eq_true] at e1
  rw [e1, ncase_f]
  refine ru_seq (ru_ifF (e1 ▸ by (repeat' first | walk_at "kp_ev" | (first | lia | omega))) ru_pass) ?_
  refine ru_seq (ru_set (v := N (pnN G pw)) (F.ep s rfl (nv_loc rfl) h2).ex rfl) ?_
  by_cases e2 : Nat.beq sd 0 = true
  · rw [e2, ncase_t]
    refine ru_seqr (ru_ifT (e2 ▸ by (repeat' first | walk_at "kp_ev" | (first | lia | omega))) ?_)
    by_cases e3 : bnt (Nat.beq (Nat.land (Nat.shiftRight (pnN G pw) wk) 1) 0) = true
    · rw [e3, ncase_t]
      exact ru_seqr (ru_ifT (e3 ▸ by (repeat' first | walk_at "kp_ev" | (first | lia | omega))) (ru_ret ev_k0.ex))
    rw [Bool.not_eq_true] at e3
    rw [e3, ncase_f]
    refine ru_seq (ru_ifF (e3 ▸ by (repeat' first | walk_at "kp_ev" | (first | lia | omega))) ru_pass) ?_
    refine ru_seq (ru_set (v := N (pw + G.fl)) (Ev.ex (by (repeat' first | walk_at "kp_ev" | (first | lia | omega) | exact F.e0 rfl))) rfl) ?_
    by_cases e4 : bcase (Nat.beq (pw / G.fl) (G.rk - 2)) (bcase (bnt (Nat.beq (pw + G.fl) st)) (bnt (Nat.beq (pw + G.fl) wk)) false) false = true
    · rw [e4, ncase_t]
      by_cases e5 : bcase (bnt (bnt (Nat.beq (Nat.land (Nat.shiftRight (kgN G wk) (pw + G.fl)) 1) 0))) true (bnt (Nat.beq (Nat.land (Nat.shiftRight (kgN G st) (pw + G.fl)) 1) 0)) = true
      · rw [e5, ncase_t]
        exact ru_seqr (ru_ifT (e4 ▸ by (repeat' first | walk_at "kp_ev" | (first | lia | omega) | exact F.e0 rfl | exact F.e1 rfl)) (ru_ifT (e5 ▸ by (repeat' first | walk_at "kp_ev" | (first | lia | omega))) (ru_ret ev_k4.ex)))
      rw [Bool.not_eq_true] at e5
      rw [e5, ncase_f]
      exact ru_seq (ru_ifT (e4 ▸ by (repeat' first | walk_at "kp_ev" | (first | lia | omega) | exact F.e0 rfl | exact F.e1 rfl)) (ru_ifF (e5 ▸ by (repeat' first | walk_at "kp_ev" | (first | lia | omega))) ru_pass)) (ru_ret ev_k1.ex)
    rw [Bool.not_eq_true] at e4
    rw [e4, ncase_f]
    exact ru_seq (ru_ifF (e4 ▸ by (repeat' first | walk_at "kp_ev" | (first | lia | omega) | exact F.e0 rfl | exact F.e1 rfl)) ru_pass) (ru_ret ev_k1.ex)
  rw [Bool.not_eq_true] at e2
  rw [e2, ncase_f]
  refine ru_seq (ru_ifF (e2 ▸ by (repeat' first | walk_at "kp_ev" | (first | lia | omega))) ru_pass) ?_
  by_cases e3 : Nat.beq (Nat.land (kgN G wk) (Nat.lor (kgN G st) (pnN G pw))) (kgN G wk) = true
  · rw [e3, ncase_t]
    exact ru_seqr (ru_ifT (e3 ▸ by (repeat' first | walk_at "kp_ev" | (first | lia | omega))) (ru_ret ev_k2.ex))
  rw [Bool.not_eq_true] at e3
  rw [e3, ncase_f]
  refine ru_seq (ru_ifF (e3 ▸ by (repeat' first | walk_at "kp_ev" | (first | lia | omega))) ru_pass) ?_
  by_cases e4 : bcase (bnt (Nat.beq (Nat.land (Nat.shiftRight (kgN G wk) pw) 1) 0)) (bnt (bnt (Nat.beq (Nat.land (Nat.shiftRight (kgN G st) pw) 1) 0))) false = true
  · rw [e4, ncase_t]
    exact ru_seqr (ru_ifT (e4 ▸ by (repeat' first | walk_at "kp_ev" | (first | lia | omega))) (ru_ret ev_k2.ex))
  rw [Bool.not_eq_true] at e4
  rw [e4, ncase_f]
  exact ru_seq (ru_ifF (e4 ▸ by (repeat' first | walk_at "kp_ev" | (first | lia | omega))) ru_pass) (ru_ret ev_k1.ex)

-- the table's reads
noncomputable def orL (z start m : Nat) (xs : List Nat) : Nat → Nat := @List.rec Nat (fun _ => Nat → Nat) (fun acc => acc) (fun x _ ih acc => ih (Nat.lor acc (digP z (Nat.pow (nat_lit 65536) (Nat.add start (Nat.mul x m)))))) xs
theorem orL_nil (z start m acc : Nat) : orL z start m [] acc = acc := rfl
theorem orL_cons (z start m x : Nat) (xs : List Nat) (acc : Nat) : orL z start m (x :: xs) acc = orL z start m xs (Nat.lor acc (digP z (65536 ^ (start + x * m)))) := rfl
noncomputable def digI (G : GM) (z sd st pw wk : Nat) : Nat := digP z (Nat.pow (nat_lit 65536) (idxN G sd st pw wk))
noncomputable def strongN (G : GM) (z st pw wk : Nat) : Nat :=
  ncase (Nat.ble (Nat.add (Nat.div pw G.fl) (nat_lit 1)) (Nat.sub G.rk (nat_lit 2)))
    (ncase (bcase (Nat.beq (Nat.div pw G.fl) (nat_lit 1)) (bcase G.db (bcase (bnt (Nat.beq (Nat.add pw G.fl) st)) (bnt (Nat.beq (Nat.add pw G.fl) wk)) false) false) false)
      (Nat.lor (Nat.lor (orL z (idxN G (nat_lit 1) (nat_lit 0) pw wk) (nat_lit 1) (nbN G st) (nat_lit 0)) (digI G z (nat_lit 1) st (Nat.add pw G.fl) wk)) (digI G z (nat_lit 1) st (Nat.add (Nat.add pw G.fl) G.fl) wk))
      (Nat.lor (orL z (idxN G (nat_lit 1) (nat_lit 0) pw wk) (nat_lit 1) (nbN G st) (nat_lit 0)) (digI G z (nat_lit 1) st (Nat.add pw G.fl) wk)))
    (orL z (idxN G (nat_lit 1) (nat_lit 0) pw wk) (nat_lit 1) (nbN G st) (nat_lit 0))
theorem strongN_eq (G : GM) (z st pw wk : Nat) : strongN G z st pw wk =
  ncase (Nat.ble (pw / G.fl + 1) (G.rk - 2))
    (ncase (bcase (Nat.beq (pw / G.fl) 1) (bcase G.db (bcase (bnt (Nat.beq (pw + G.fl) st)) (bnt (Nat.beq (pw + G.fl) wk)) false) false) false)
      (Nat.lor (Nat.lor (orL z (idxN G 1 0 pw wk) 1 (nbN G st) 0) (digP z (65536 ^ idxN G 1 st (pw + G.fl) wk))) (digP z (65536 ^ idxN G 1 st (pw + G.fl + G.fl) wk)))
      (Nat.lor (orL z (idxN G 1 0 pw wk) 1 (nbN G st) 0) (digP z (65536 ^ idxN G 1 st (pw + G.fl) wk))))
    (orL z (idxN G 1 0 pw wk) 1 (nbN G st) 0) := rfl
noncomputable def weakN (G : GM) (z st pw wk : Nat) : Nat := orL z (idxN G (nat_lit 0) st pw (nat_lit 0)) G.sz (nbN G wk) (nat_lit 0)
noncomputable def clsN (G : GM) (z sd st pw wk : Nat) : Nat :=
  ncase (Nat.beq sd (nat_lit 0))
    (ncase (bnt (Nat.beq (Nat.land (strongN G z st pw wk) (nat_lit 4)) (nat_lit 0))) (nat_lit 4) (ncase (bnt (Nat.beq (Nat.land (strongN G z st pw wk) (nat_lit 1)) (nat_lit 0))) (nat_lit 1) (nat_lit 2)))
    (ncase (bnt (Nat.beq (Nat.land (weakN G z st pw wk) (nat_lit 2)) (nat_lit 0))) (nat_lit 2) (ncase (bnt (Nat.beq (Nat.land (weakN G z st pw wk) (nat_lit 1)) (nat_lit 0))) (nat_lit 1) (nat_lit 4)))
theorem clsN_eq (G : GM) (z sd st pw wk : Nat) : clsN G z sd st pw wk =
  ncase (Nat.beq sd 0)
    (ncase (bnt (Nat.beq (Nat.land (strongN G z st pw wk) 4) 0)) 4 (ncase (bnt (Nat.beq (Nat.land (strongN G z st pw wk) 1) 0)) 1 2))
    (ncase (bnt (Nat.beq (Nat.land (weakN G z st pw wk) 2) 0)) 2 (ncase (bnt (Nat.beq (Nat.land (weakN G z st pw wk) 1) 0)) 1 4)) := rfl
theorem nats_get {xs : List Nat} {i : Nat} (hi : i < (nats xs).length) : ∃ hj : i < xs.length, (nats xs)[i] = N xs[i] := ⟨by simpa [nats] using hi, by simp [nats]⟩
theorem ru_or {e : XE} {l : Loc} {h : H} {n i m : Nat} {l1 : Loc} (hl : getV l n = N i) (x : Ev e l h (N m)) (el : setV (N (Nat.lor i m)) l n = l1) : Ru (saug n oor e) l h (.nx l1 h) := ru_aug hl x n_or el
section
variable {bb s z : Nat} {ρ : Nat → Nat}
theorem fc_strong (F : GeoF G b h g kr pr p0) (s' : Ok G) (R : RowsF G b h s ρ) (hz : h.t.getS bb = .pk z (lenN G)) (d : Dm G pw) (h1 : st < G.sz) (h3 : wk < G.sz) :
    Fc f_strong_results [.ref g, .ref bb, .ref s, N st, N pw, N wk] h (N (strongN G z st pw wk)) h := by
  have := s'.bd
  have hL := lenN_le s'.toSh
  obtain ⟨d1, d2, d3⟩ := id d
  rw [strongN_eq]
  refine fc_fn rfl ?_
  refine ru_seq (ru_set (v := N 0) ev_k0.ex rfl) ?_
  refine ru_seq (ru_set (v := N (idxN G 1 0 pw wk)) (Ev.ex (by (repeat' first | walk_at "kp_ev" | (first | lia | omega) | with_reducible refine ev_cl ?_ (fc_kpk_index (sd := 1) (st := 0) F s'.toSh d1 (by (first | lia | omega)) (by (first | lia | omega)) (by (first | lia | omega)))))) rfl) ?_
  have lp := ru_list (t := tvar 8) (n := ρ st) (xs := nats (nbN G st)) (a := saug 6 oor (xsub (xloc 1) (xbin oadd (xloc 7) (xloc 8)))) (c := xsub (xloc 2) (xloc 3)) (h := h)
    (l := [.ref g, .ref bb, .ref s, N st, N pw, N wk, N 0, N (idxN G 1 0 pw wk), .unb, .unb, .unb])
    (I := fun i l h' => h' = h ∧ ∃ x acc, l = [.ref g, .ref bb, .ref s, N st, N pw, N wk, N acc, N (idxN G 1 0 pw wk), x, .unb, .unb] ∧ orL z (idxN G 1 0 pw wk) 1 ((nbN G st).drop i) acc = orL z (idxN G 1 0 pw wk) 1 (nbN G st) 0)
    (R.at_ s'.toSh (ev_ref rfl) (nv_loc rfl) h1) (fun i l h' x => by rw [x.1]; exact R.row st h1) ⟨rfl, .unb, 0, rfl, rfl⟩ (fun i l h' hi x => by
      obtain ⟨rfl, x, acc, rfl, e⟩ := x
      obtain ⟨hj, ej⟩ := nats_get hi
      rw [ej]
      have hx := s'.nb st h1 (nbN G st)[i] (List.getElem_mem hj)
      refine ⟨_, _, _, ts_var rfl, ru_or (i := acc) rfl (ev_pk (j := idxN G 1 0 pw wk + (nbN G st)[i]) (ev_ref rfl) (by (repeat' first | walk_at "kp_ev" | (first | lia | omega))) hz ?_ (by (first | lia | omega))) rfl, rfl, _, _, rfl, ?_⟩
      · have := idx_lt s'.toSh d1 d2 d3 (sd := 1) (by (first | lia | omega)) hx h3
        rw [idxN_eq] at *; (first | lia | omega)
      · rw [List.drop_eq_getElem_cons hj, orL_cons, Nat.mul_one] at e
        exact e)
  obtain ⟨l', h', ⟨rfl, x8, acc, rfl, e⟩, lp⟩ := lp
  have ea : acc = orL z (idxN G 1 0 pw wk) 1 (nbN G st) 0 := by
    rw [← e, List.drop_eq_nil_of_le (by simp [nats])]; rfl
  rw [← ea]
  refine ru_seq lp ?_
  refine ru_seq (ru_set (v := N (pw / G.fl)) (Ev.ex (by (repeat' first | walk_at "kp_ev" | (first | lia | omega) | exact F.e0 rfl))) rfl) ?_
  by_cases e1 : Nat.ble (pw / G.fl + 1) (G.rk - 2) = true
  · rw [e1, ncase_t]
    have da := d.ahead s' e1
    have hk := fc_kpk_index (sd := 1) (st := st) (wk := wk) F s'.toSh da.1 (by have := da.2.1; (first | lia | omega)) (by (first | lia | omega)) (by (first | lia | omega))
    have il := idx_lt s'.toSh da.1 da.2.1 da.2.2 (sd := 1) (by (first | lia | omega)) h1 h3
    by_cases e2 : bcase (Nat.beq (pw / G.fl) 1) (bcase G.db (bcase (bnt (Nat.beq (pw + G.fl) st)) (bnt (Nat.beq (pw + G.fl) wk)) false) false) false = true
    · rw [e2, ncase_t]
      have db : G.db = true ∧ Nat.beq (pw / G.fl) 1 = true := by
        revert e2
        cases Nat.beq (pw / G.fl) 1 <;> cases G.db <;> simp [bcase]
      have da2 := d.ahead2 s' db.1 db.2
      have hk2 := fc_kpk_index (sd := 1) (st := st) (wk := wk) F s'.toSh da2.1 (by have := da2.2.1; (first | lia | omega)) (by (first | lia | omega)) (by (first | lia | omega))
      have il2 := idx_lt s'.toSh da2.1 da2.2.1 da2.2.2 (sd := 1) (by (first | lia | omega)) h1 h3
      refine ru_seq (l1 := [.ref g, .ref bb, .ref s, N st, N pw, N wk, N (Nat.lor (Nat.lor acc (digP z (65536 ^ idxN G 1 st (pw + G.fl) wk))) (digP z (65536 ^ idxN G 1 st (pw + G.fl + G.fl) wk))), N (idxN G 1 0 pw wk), x8, N (pw / G.fl), N (pw + G.fl)]) (ru_ifT (e1 ▸ by (repeat' first | walk_at "kp_ev" | (first | lia | omega) | exact F.e1 rfl)) ?_) (ru_ret (Ev.ex (nv_loc rfl)))
      refine ru_seq (ru_set (v := N (pw + G.fl)) (Ev.ex (by (repeat' first | walk_at "kp_ev" | (first | lia | omega) | exact F.e0 rfl))) rfl) ?_
      refine ru_seq (ru_or (i := acc) rfl (ev_pk (ev_ref rfl) (ev_cl (by (repeat' first | walk_at "kp_ev" | (first | lia | omega))) hk) hz il (by (first | lia | omega))) rfl) ?_
      exact ru_ifT (e2 ▸ by (repeat' first | walk_at "kp_ev" | (first | lia | omega) | exact F.e4 rfl)) (ru_or rfl (ev_pk (ev_ref rfl) (ev_cl (by (repeat' first | walk_at "kp_ev" | (first | lia | omega) | exact F.e0 rfl)) hk2) hz il2 (by (first | lia | omega))) rfl)
    · rw [Bool.not_eq_true] at e2
      rw [e2, ncase_f]
      refine ru_seq (l1 := [.ref g, .ref bb, .ref s, N st, N pw, N wk, N (Nat.lor acc (digP z (65536 ^ idxN G 1 st (pw + G.fl) wk))), N (idxN G 1 0 pw wk), x8, N (pw / G.fl), N (pw + G.fl)]) (ru_ifT (e1 ▸ by (repeat' first | walk_at "kp_ev" | (first | lia | omega) | exact F.e1 rfl)) ?_) (ru_ret (Ev.ex (nv_loc rfl)))
      refine ru_seq (ru_set (v := N (pw + G.fl)) (Ev.ex (by (repeat' first | walk_at "kp_ev" | (first | lia | omega) | exact F.e0 rfl))) rfl) ?_
      refine ru_seq (ru_or (i := acc) rfl (ev_pk (ev_ref rfl) (ev_cl (by (repeat' first | walk_at "kp_ev" | (first | lia | omega))) hk) hz il (by (first | lia | omega))) rfl) ?_
      exact ru_ifF (e2 ▸ by (repeat' first | walk_at "kp_ev" | (first | lia | omega) | exact F.e4 rfl)) ru_pass
  · rw [Bool.not_eq_true] at e1
    rw [e1, ncase_f]
    exact ru_seq (ru_ifF (e1 ▸ by (repeat' first | walk_at "kp_ev" | (first | lia | omega) | exact F.e1 rfl)) ru_pass) (ru_ret (Ev.ex (nv_loc rfl)))
theorem fc_weak (F : GeoF G b h g kr pr p0) (s' : Ok G) (R : RowsF G b h s ρ) (hz : h.t.getS bb = .pk z (lenN G)) (d : Dm G pw) (h1 : st < G.sz) (h3 : wk < G.sz) :
    Fc f_weak_results [.ref g, .ref bb, .ref s, N st, N pw, N wk] h (N (weakN G z st pw wk)) h := by
  have := s'.bd
  have hL := lenN_le s'.toSh
  obtain ⟨d1, d2, d3⟩ := id d
  refine fc_fn rfl ?_
  refine ru_seq (ru_set (v := N 0) ev_k0.ex rfl) ?_
  refine ru_seq (ru_set (v := N (idxN G 0 st pw 0)) (Ev.ex (by (repeat' first | walk_at "kp_ev" | (first | lia | omega) | with_reducible refine ev_cl ?_ (fc_kpk_index (sd := 0) (wk := 0) F s'.toSh d1 (by (first | lia | omega)) (by (first | lia | omega)) (by (first | lia | omega)))))) rfl) ?_
  have lp := ru_list (t := tvar 8) (n := ρ wk) (xs := nats (nbN G wk)) (a := saug 6 oor (xsub (xloc 1) (xbin oadd (xloc 7) (xbin omul (xloc 8) (xattr (xloc 0) 2))))) (c := xsub (xloc 2) (xloc 5)) (h := h)
    (l := [.ref g, .ref bb, .ref s, N st, N pw, N wk, N 0, N (idxN G 0 st pw 0), .unb])
    (I := fun i l h' => h' = h ∧ ∃ x acc, l = [.ref g, .ref bb, .ref s, N st, N pw, N wk, N acc, N (idxN G 0 st pw 0), x] ∧ orL z (idxN G 0 st pw 0) G.sz ((nbN G wk).drop i) acc = orL z (idxN G 0 st pw 0) G.sz (nbN G wk) 0)
    (R.at_ s'.toSh (ev_ref rfl) (nv_loc rfl) h3) (fun i l h' x => by rw [x.1]; exact R.row wk h3) ⟨rfl, .unb, 0, rfl, rfl⟩ (fun i l h' hi x => by
      obtain ⟨rfl, x, acc, rfl, e⟩ := x
      obtain ⟨hj, ej⟩ := nats_get hi
      rw [ej]
      have hx := s'.nb wk h3 (nbN G wk)[i] (List.getElem_mem hj)
      refine ⟨_, _, _, ts_var rfl, ru_or (i := acc) rfl (ev_pk (j := idxN G 0 st pw 0 + (nbN G wk)[i] * G.sz) (ev_ref rfl) (by (repeat' first | walk_at "kp_ev" | (first | lia | omega) | exact F.e2 rfl)) hz ?_ (by (first | lia | omega))) rfl, rfl, _, _, rfl, ?_⟩
      · have := idx_lt s'.toSh d1 d2 d3 (sd := 0) (by (first | lia | omega)) h1 hx
        rw [idxN_eq] at *
        rw [Nat.add_mul _ (nbN G wk)[i]] at this
        rw [Nat.add_zero]; (first | lia | omega)
      · rw [List.drop_eq_getElem_cons hj, orL_cons] at e
        exact e)
  obtain ⟨l', h', ⟨rfl, x8, acc, rfl, e⟩, lp⟩ := lp
  have ea : acc = weakN G z st pw wk := by
    show acc = orL z (idxN G 0 st pw 0) G.sz (nbN G wk) 0
    rw [← e, List.drop_eq_nil_of_le (by simp [nats])]; rfl
  rw [← ea]
  exact ru_seq lp (ru_ret (Ev.ex (nv_loc rfl)))
theorem fc_classify (F : GeoF G b h g kr pr p0) (s' : Ok G) (R : RowsF G b h s ρ) (hz : h.t.getS bb = .pk z (lenN G)) (d : Dm G pw) (h1 : st < G.sz) (h3 : wk < G.sz) :
    Fc f_classify [.ref g, .ref bb, .ref s, N sd, N st, N pw, N wk] h (N (clsN G z sd st pw wk)) h := by
  rw [clsN_eq]
  refine fc_fn rfl ?_
  by_cases e1 : Nat.beq sd 0 = true
  · rw [e1, ncase_t]
    have hs := fc_strong F s' R hz d h1 h3
    refine ru_seq (ru_ifT (e1 ▸ by (repeat' first | walk_at "kp_ev" | (first | lia | omega))) (ru_seq (ru_set (Ev.ex (ev_cl (by (repeat' first | walk_at "kp_ev" | (first | lia | omega))) hs)) rfl) (ru_seq (ru_set ev_k4.ex rfl) (ru_set ev_k2.ex rfl)))) ?_
    by_cases e2 : bnt (Nat.beq (Nat.land (strongN G z st pw wk) 4) 0) = true
    · rw [e2, ncase_t]
      exact ru_seqr (ru_ifT (e2 ▸ by (repeat' first | walk_at "kp_ev" | (first | lia | omega))) (ru_ret (Ev.ex (nv_loc rfl))))
    rw [Bool.not_eq_true] at e2
    rw [e2, ncase_f]
    refine ru_seq (ru_ifF (e2 ▸ by (repeat' first | walk_at "kp_ev" | (first | lia | omega))) ru_pass) ?_
    by_cases e3 : bnt (Nat.beq (Nat.land (strongN G z st pw wk) 1) 0) = true
    · rw [e3, ncase_t]
      exact ru_seqr (ru_ifT (e3 ▸ by (repeat' first | walk_at "kp_ev" | (first | lia | omega))) (ru_ret ev_k1.ex))
    rw [Bool.not_eq_true] at e3
    rw [e3, ncase_f]
    exact ru_seq (ru_ifF (e3 ▸ by (repeat' first | walk_at "kp_ev" | (first | lia | omega))) ru_pass) (ru_ret (Ev.ex (nv_loc rfl)))
  · rw [Bool.not_eq_true] at e1
    rw [e1, ncase_f]
    have hs := fc_weak F s' R hz d h1 h3
    refine ru_seq (ru_ifF (e1 ▸ by (repeat' first | walk_at "kp_ev" | (first | lia | omega))) (ru_seq (ru_set (Ev.ex (ev_cl (by (repeat' first | walk_at "kp_ev" | (first | lia | omega))) hs)) rfl) (ru_seq (ru_set ev_k2.ex rfl) (ru_set ev_k4.ex rfl)))) ?_
    by_cases e2 : bnt (Nat.beq (Nat.land (weakN G z st pw wk) 2) 0) = true
    · rw [e2, ncase_t]
      exact ru_seqr (ru_ifT (e2 ▸ by (repeat' first | walk_at "kp_ev" | (first | lia | omega))) (ru_ret (Ev.ex (nv_loc rfl))))
    rw [Bool.not_eq_true] at e2
    rw [e2, ncase_f]
    refine ru_seq (ru_ifF (e2 ▸ by (repeat' first | walk_at "kp_ev" | (first | lia | omega))) ru_pass) ?_
    by_cases e3 : bnt (Nat.beq (Nat.land (weakN G z st pw wk) 1) 0) = true
    · rw [e3, ncase_t]
      exact ru_seqr (ru_ifT (e3 ▸ by (repeat' first | walk_at "kp_ev" | (first | lia | omega))) (ru_ret ev_k1.ex))
    rw [Bool.not_eq_true] at e3
    rw [e3, ncase_f]
    exact ru_seq (ru_ifF (e3 ▸ by (repeat' first | walk_at "kp_ev" | (first | lia | omega))) ru_pass) (ru_ret (Ev.ex (nv_loc rfl)))
end
end
-- part Sy4
-- Sy4: squares_of, settle_round (own work)
structure Pl where
  sd : Nat
  st : Nat
  pw : Nat
  wk : Nat
noncomputable def tupP (p : Pl) : V := .tup [N p.sd, N p.st, N p.pw, N p.wk]
noncomputable def Vp (G : GM) (p : Pl) : Prop := p.sd ≤ 1 ∧ p.st < G.sz ∧ Dm G p.pw ∧ p.wk < G.sz
-- squares_of
noncomputable def sqI : Nat → Nat → Nat → Option (Nat × Nat)
  | 0, _, _ => none
  | f + 1, b, sq => bif Nat.beq (Nat.land b 15) 0 then sqI f (Nat.shiftRight b 4) (sq + 4) else some (b, sq)
noncomputable def sqO : Nat → Nat → Nat → List Nat → Option (List Nat)
  | 0, _, _, _ => none
  | f + 1, b, sq, acc => bif Nat.beq b 0 then some acc else
      match sqI 64 b sq with
      | none => none
      | some (b1, s1) => sqO f (Nat.shiftRight b1 1) (s1 + 1) (bif Nat.beq (Nat.land b1 1) 0 then acc else acc ++ [s1])
section
variable {h : H}
theorem tv_loc {l : Loc} {i n : Nat} (e : getV l i = N n) : Tv (xloc i) l h (bnt (Nat.beq n 0)) := tv_int (nv_loc e)
theorem ru_sqI {n : Nat} : ∀ (f b sq b1 s1 : Nat), sqI f b sq = some (b1, s1) →
    Ru (swhile (xnot (xbin oand (xloc 0) (xlit (.int (.ofNat 15))))) (sseq (saug 0 oshr (xlit (.int (.ofNat 4)))) (saug 2 oadd (xlit (.int (.ofNat 4))))) f) [N b, .ref n, N sq] h (.nx [N b1, .ref n, N s1] h)
  | 0, b, sq, b1, s1, e => by cases e
  | f + 1, b, sq, b1, s1, e => by
    unfold sqI at e
    cases q : Nat.beq (Nat.land b 15) 0 with
    | true =>
      rw [q, cond_true] at e
      have c : Tv (xnot (xbin oand (xloc 0) (xlit (.int (.ofNat 15))))) [N b, .ref n, N sq] h (bnt (bnt (Nat.beq (Nat.land b 15) 0))) := by (repeat' first | walk_at "kp_ev" | (first | lia | omega))
      rw [q] at c
      exact ru_wnext c (ru_seq (ru_aug (i := b) rfl ev_k4 n_shr rfl) (ru_aug (i := sq) rfl ev_k4 n_add rfl)) (ru_sqI f _ _ b1 s1 e)
    | false =>
      rw [q, cond_false] at e
      obtain ⟨rfl, rfl⟩ : b = b1 ∧ sq = s1 := by simpa using e
      have c : Tv (xnot (xbin oand (xloc 0) (xlit (.int (.ofNat 15))))) [N b, .ref n, N sq] h (bnt (bnt (Nat.beq (Nat.land b 15) 0))) := by (repeat' first | walk_at "kp_ev" | (first | lia | omega))
      rw [q] at c
      exact ru_wstop c
noncomputable abbrev sqB : XS := (sseq (swhile (xnot (xbin oand (xloc (nat_lit 0)) (xlit (.int (.ofNat (nat_lit 15))))))
   (sseq (saug (nat_lit 0) oshr (xlit (.int (.ofNat (nat_lit 4)))))
   (saug (nat_lit 2) oadd (xlit (.int (.ofNat (nat_lit 4)))))) (nat_lit 64))
  (sseq (sif (xbin oand (xloc (nat_lit 0)) (xlit (.int (.ofNat (nat_lit 1)))))
   (sexpr (xappend (xloc (nat_lit 1)) (xloc (nat_lit 2))))
   spass)
  (sseq (saug (nat_lit 0) oshr (xlit (.int (.ofNat (nat_lit 1)))))
  (saug (nat_lit 2) oadd (xlit (.int (.ofNat (nat_lit 1))))))))
theorem nats_snoc (xs : List Nat) (x : Nat) : nats (xs ++ [x]) = nats xs ++ [N x] := by simp [nats]
theorem ru_sqO {n c : Nat} {h0 : H} (hn : h0.n ≤ n) : ∀ (f b sq : Nat) (acc xs : List Nat) (h : H), sqO f b sq acc = some xs → acc.length + f ≤ 1000 → n < h.n → h.r ≤ n → Kp c h0 h → h.t.get n = .list (nats acc) →
    ∃ h' b1 s1, Ru (swhile (xloc 0) sqB f) [N b, .ref n, N sq] h (.nx [N b1, .ref n, N s1] h') ∧ n < h'.n ∧ Kp c h0 h' ∧ h'.t.get n = .list (nats xs)
  | 0, b, sq, acc, xs, h, e, _, _, _, _, _ => by cases e
  | f + 1, b, sq, acc, xs, h, e, hl, hh, hr, hk, hg => by
    unfold sqO at e
    cases q : Nat.beq b 0 with
    | true =>
      rw [q, cond_true] at e
      obtain rfl : acc = xs := by simpa using e
      have c : Tv (xloc 0) [N b, .ref n, N sq] h (bnt (Nat.beq b 0)) := tv_loc rfl
      rw [q] at c
      exact ⟨h, b, sq, ru_wstop c, hh, hk, hg⟩
    | false =>
      rw [q, cond_false] at e
      have cc : Tv (xloc 0) [N b, .ref n, N sq] h (bnt (Nat.beq b 0)) := tv_loc rfl
      rw [q] at cc
      cases z : sqI 64 b sq with
      | none => rw [z] at e; cases e
      | some p =>
        obtain ⟨b1, s1⟩ := p
        rw [z] at e
        dsimp only at e
        have r1 := ru_sqI (h := h) (n := n) 64 b sq b1 s1 z
        have c2 : Tv (xbin oand (xloc 0) (xlit (.int (.ofNat 1)))) [N b1, .ref n, N s1] h (bnt (Nat.beq (Nat.land b1 1) 0)) := by (repeat' first | walk_at "kp_ev" | (first | lia | omega))
        cases q2 : Nat.beq (Nat.land b1 1) 0 with
        | true =>
          rw [q2] at c2
          rw [q2, cond_true] at e
          obtain ⟨h', b2, s2, r2, k1, k2, k3⟩ := ru_sqO hn f (Nat.shiftRight b1 1) (s1 + 1) acc xs h e (by (first | lia | omega)) hh hr hk hg
          exact ⟨h', b2, s2, ru_wnext cc (ru_seq r1 (ru_seq (ru_ifF c2 ru_pass) (ru_seq (ru_aug (i := b1) rfl ev_k1 n_shr rfl) (ru_aug (i := s1) rfl ev_k1 n_add rfl)))) r2, k1, k2, k3⟩
        | false =>
          rw [q2] at c2
          rw [q2, cond_false] at e
          have hs : Kp c h0 (h.set n (.list (nats acc ++ [N s1]))) := hk.trans (Kp.set n h _) (.inr hn)
          obtain ⟨h', b2, s2, r2, k1, k2, k3⟩ := ru_sqO hn f (Nat.shiftRight b1 1) (s1 + 1) (acc ++ [s1]) xs (h.set n (.list (nats acc ++ [N s1]))) e (by simp; (first | lia | omega)) hh hr hs (by
            show SO.view _ = _
            rw [set_getS, if_pos rfl, nats_snoc]; rfl)
          exact ⟨h', b2, s2, ru_wnext cc (ru_seq r1 (ru_seq (ru_ifT c2 (ru_append (ev_ref rfl) (nv_loc (n := s1) rfl) hg (by simp [nats]; (first | lia | omega)) hr)) (ru_seq (ru_aug (i := b1) rfl ev_k1 n_shr rfl) (ru_aug (i := s1) rfl ev_k1 n_add rfl)))) r2, k1, k2, k3⟩
theorem fc_squares {c b : Nat} {xs : List Nat} (hr : h.r ≤ h.n) (e : sqO 64 b 0 [] = some xs) : ∃ h', Fc f_squares_of [N b] h (.ref h.n) h' ∧ h.n < h'.n ∧ Kp c h h' ∧ h'.t.get h.n = .list (nats xs) := by
  obtain ⟨h', b1, s1, r, k1, k2, k3⟩ := ru_sqO (n := h.n) (c := c) (h0 := h) (Nat.le_refl _) 64 b 0 [] xs (h.new (.list [])) e (by simp) (Nat.lt_succ_self _) hr (Kp.new c h _) (by
    show SO.view _ = _
    rw [new_getS, if_pos rfl]; rfl)
  exact ⟨h', fc_fn rfl (ru_seq (ru_set ex_nil rfl) (ru_seq (ru_set ev_k0.ex rfl) (ru_seq r (ru_ret (Ev.ex (ev_ref rfl)))))), k1, k2, k3⟩
end

-- settle_round
noncomputable def setI (G : GM) (z : Nat) (p : Pl) (m : Nat) : Nat := setP z (Nat.pow (nat_lit 65536) (idxN G p.sd p.st p.pw p.wk)) m
noncomputable def clsP (G : GM) (z : Nat) (p : Pl) : Nat := clsN G z p.sd p.st p.pw p.wk
noncomputable def rndS (G : GM) : List Pl → Nat → List Pl → Nat × List Pl
  | [], z, acc => (z, acc)
  | p :: r, z, acc => bif Nat.beq (clsP G z p) 1 then rndS G r z (acc ++ [p]) else rndS G r (setI G z p (clsP G z p)) acc
theorem rndS_cons (G : GM) (p : Pl) (r : List Pl) (z : Nat) (acc : List Pl) : rndS G (p :: r) z acc = bif Nat.beq (clsP G z p) 1 then rndS G r z (acc ++ [p]) else rndS G r (setI G z p (clsP G z p)) acc := rfl
theorem cls_le (G : GM) (z : Nat) (p : Pl) : clsP G z p < 65536 := by
  show clsN _ _ _ _ _ _ < _
  rw [clsN_eq]
  cases Nat.beq p.sd 0 <;> simp only [ncase_t, ncase_f]
  · cases bnt (Nat.beq (Nat.land (weakN G z p.st p.pw p.wk) 2) 0) <;> simp only [ncase_t, ncase_f]
    · cases bnt (Nat.beq (Nat.land (weakN G z p.st p.pw p.wk) 1) 0) <;> simp only [ncase_t, ncase_f] <;> (first | lia | omega)
    · (first | lia | omega)
  · cases bnt (Nat.beq (Nat.land (strongN G z p.st p.pw p.wk) 4) 0) <;> simp only [ncase_t, ncase_f]
    · cases bnt (Nat.beq (Nat.land (strongN G z p.st p.pw p.wk) 1) 0) <;> simp only [ncase_t, ncase_f] <;> (first | lia | omega)
    · (first | lia | omega)
theorem rnd_mem (G : GM) : ∀ (xs : List Pl) (z : Nat) (acc : List Pl), ∀ p ∈ (rndS G xs z acc).2, p ∈ acc ∨ p ∈ xs
  | [], z, acc, p, hp => .inl hp
  | q :: r, z, acc, p, hp => by
    unfold rndS at hp
    cases e : Nat.beq (clsP G z q) 1 with
    | true =>
      rw [e, cond_true] at hp
      rcases rnd_mem G r _ _ p hp with h | h
      · rcases List.mem_append.mp h with h | h
        · exact .inl h
        · exact .inr (by simp at h; simp [h])
      · exact .inr (.tail _ h)
    | false =>
      rw [e, cond_false] at hp
      rcases rnd_mem G r _ _ p hp with h | h
      · exact .inl h
      · exact .inr (.tail _ h)
theorem rnd_len (G : GM) : ∀ (xs : List Pl) (z : Nat) (acc : List Pl), (rndS G xs z acc).2.length ≤ acc.length + xs.length
  | [], z, acc => by simp [rndS]
  | q :: r, z, acc => by
    unfold rndS
    cases Nat.beq (clsP G z q) 1 with
    | true => rw [cond_true]; have := rnd_len G r z (acc ++ [q]); simp at *; (first | lia | omega)
    | false => rw [cond_false]; have := rnd_len G r (setI G z q (clsP G z q)) acc; simp at *; (first | lia | omega)
section
variable {G : GM} {b : Nat} {h : H} {g kr pr p0 bb s u z : Nat} {ρ : Nat → Nat} {xs : List Pl}
theorem pl_get {i : Nat} (hi : i < (xs.map tupP).length) : ∃ hj : i < xs.length, (xs.map tupP)[i] = tupP xs[i] := ⟨by simpa using hi, by simp⟩
noncomputable abbrev rndB : XS := (sseq (sset (nat_lit 9) (xcall f_classify (econs (xloc (nat_lit 0)) (econs (xloc (nat_lit 1)) (econs (xloc (nat_lit 2)) (econs (xloc (nat_lit 5)) (econs (xloc (nat_lit 6)) (econs (xloc (nat_lit 7)) (econs (xloc (nat_lit 8)) enil)))))))))
  (sif (xcmp ceq (xloc (nat_lit 9)) (xlit (.int (.ofNat (nat_lit 1)))))
   (sexpr (xappend (xloc (nat_lit 4)) (xtup (econs (xloc (nat_lit 5)) (econs (xloc (nat_lit 6)) (econs (xloc (nat_lit 7)) (econs (xloc (nat_lit 8)) enil)))))))
   (ssub (xloc (nat_lit 1)) (xcall f_kpk_index (econs (xloc (nat_lit 0)) (econs (xloc (nat_lit 5)) (econs (xloc (nat_lit 6)) (econs (xloc (nat_lit 7)) (econs (xloc (nat_lit 8)) enil)))))) (xloc (nat_lit 9)))))
theorem fc_round (F : GeoF G bb h g kr pr p0) (s' : Ok G) (R : RowsF G bb h s ρ) (hz : h.t.getS bb = .pk z (lenN G)) (hb : bb < h.n) (hr : h.r ≤ bb) (hu : Ow bb h u) (hx : h.t.get u = .list (xs.map tupP)) (hv : ∀ p ∈ xs, Vp G p) (hl : xs.length ≤ 100000) :
    ∃ h', Fc f_settle_round [.ref g, .ref bb, .ref s, .ref u] h (.ref h.n) h' ∧ Kp bb h h' ∧ h.n < h'.n ∧ h'.t.getS bb = .pk (rndS G xs z []).1 (lenN G) ∧ h'.t.get h.n = .list ((rndS G xs z []).2.map tupP) := by
  have hL := lenN_le s'.toSh
  have bd := s'.bd
  have lp := ru_list (t := ttup [5, 6, 7, 8]) (n := u) (xs := xs.map tupP) (a := rndB) (c := xloc 3) (h := h.new (.list []))
    (l := [.ref g, .ref bb, .ref s, .ref u, .ref h.n, .unb, .unb, .unb, .unb, .unb])
    (I := fun i l h' => Kp bb h h' ∧ h.n < h'.n ∧ ∃ x5 x6 x7 x8 x9 z' acc, l = [.ref g, .ref bb, .ref s, .ref u, .ref h.n, x5, x6, x7, x8, x9] ∧ h'.t.getS bb = .pk z' (lenN G) ∧ h'.t.get h.n = .list (acc.map tupP) ∧ acc.length ≤ i ∧ rndS G (xs.drop i) z' acc = rndS G xs z [])
    (ev_ref rfl) (fun i l h' x => by rw [hu.get x.1]; exact hx)
    ⟨Kp.new _ _ _, Nat.lt_succ_self _, .unb, .unb, .unb, .unb, .unb, z, [], rfl, by rw [new_getS, if_neg (by (first | lia | omega))]; exact hz, by show SO.view _ = _; rw [new_getS, if_pos rfl]; rfl, Nat.le_refl _, rfl⟩ (fun i l h' hi x => by
      obtain ⟨k, hn, x5, x6, x7, x8, x9, z', acc, rfl, hz', ha, hla, e⟩ := x
      obtain ⟨hj, ej⟩ := pl_get hi
      rw [ej]
      have hp := hv xs[i] (List.getElem_mem hj)
      obtain ⟨hp1, hp2, hp3, hp4⟩ := hp
      have hc := fc_classify (sd := xs[i].sd) (F.kp k) s' (R.kp k) hz' hp3 hp2 hp4
      have hi' := fc_kpk_index (sd := xs[i].sd) (st := xs[i].st) (F.kp k) s'.toSh hp3.1 (by have := hp3.2.1; (first | lia | omega)) (by (first | lia | omega)) (by (first | lia | omega) : xs[i].wk < 1000)
      have il := idx_lt s'.toSh hp3.1 hp3.2.1 hp3.2.2 hp1 hp2 hp4
      rw [List.drop_eq_getElem_cons hj, rndS_cons] at e
      cases q : Nat.beq (clsP G z' xs[i]) 1 with
      | true =>
        rw [q, cond_true] at e
        refine ⟨_, _, _, fun _ => rfl, ru_seq (ru_set (Ev.ex (ev_cl (by (repeat' first | walk_at "kp_ev" | (first | lia | omega))) hc)) rfl) (ru_ifT ?_ (ru_append (ev_ref rfl) (v := tupP xs[i]) (ev_tup (by (repeat' first | walk_at "kp_ev" | (first | lia | omega))) (by simp)) ha (by simp; (first | lia | omega)) (by rw [k.2.1]; (first | lia | omega)))), k.trans (Kp.set h.n h' _) (.inr (Nat.le_refl _)), hn, _, _, _, _, _, z', acc ++ [xs[i]], rfl, ?_, ?_, by simp; (first | lia | omega), e⟩
        · have c : Tv (xcmp ceq (xloc 9) (xlit (.int (.ofNat 1)))) [.ref g, .ref bb, .ref s, .ref u, .ref h.n, N xs[i].sd, N xs[i].st, N xs[i].pw, N xs[i].wk, N (clsP G z' xs[i])] h' (Nat.beq (clsP G z' xs[i]) 1) := by (repeat' first | walk_at "kp_ev" | (first | lia | omega))
          rw [q] at c; exact c
        · rw [set_getS, if_neg (by (first | lia | omega))]; exact hz'
        · show SO.view _ = _
          rw [set_getS, if_pos rfl, List.map_append]; rfl
      | false =>
        rw [q, cond_false] at e
        refine ⟨_, _, _, fun _ => rfl, ru_seq (ru_set (Ev.ex (ev_cl (by (repeat' first | walk_at "kp_ev" | (first | lia | omega))) hc)) rfl) (ru_ifF ?_ (ru_subP (m := clsP G z' xs[i]) (nv_loc rfl) (ev_ref rfl) (ev_cl (by (repeat' first | walk_at "kp_ev" | (first | lia | omega))) hi') hz' il (by (first | lia | omega)) (cls_le G z' xs[i]) (by rw [k.2.1]; (first | lia | omega)))), k.trans (Kp.setS bb h' _) (.inl rfl), hn, _, _, _, _, _, setI G z' xs[i] (clsP G z' xs[i]), acc, rfl, ?_, ?_, by (first | lia | omega), e⟩
        · have c : Tv (xcmp ceq (xloc 9) (xlit (.int (.ofNat 1)))) [.ref g, .ref bb, .ref s, .ref u, .ref h.n, N xs[i].sd, N xs[i].st, N xs[i].pw, N xs[i].wk, N (clsP G z' xs[i])] h' (Nat.beq (clsP G z' xs[i]) 1) := by (repeat' first | walk_at "kp_ev" | (first | lia | omega))
          rw [q] at c; exact c
        · rw [setS_getS, if_pos rfl]; rfl
        · show SO.view _ = _
          rw [setS_getS, if_neg (by (first | lia | omega))]; exact ha)
  obtain ⟨l', h', ⟨k, hn, x5, x6, x7, x8, x9, z', acc, rfl, hz', ha, hla, e⟩, lp⟩ := lp
  rw [List.drop_eq_nil_of_le (by simp)] at e
  have e : (z', acc) = rndS G xs z [] := e
  refine ⟨h', fc_fn rfl (ru_seq (ru_set ex_nil rfl) (ru_seq lp (ru_ret (Ev.ex (ev_ref rfl))))), k, hn, ?_, ?_⟩
  · rw [← e]; exact hz'
  · rw [← e]; exact ha
end
-- part Sy5
-- Sy5: settle_first, build_kpk (own work)
noncomputable def farM (G : GM) (wk : Nat) : Nat := Nat.sub (Nat.lor G.full (Nat.lor (kgN G wk) (Nat.shiftLeft (nat_lit 1) wk))) (Nat.land G.full (Nat.lor (kgN G wk) (Nat.shiftLeft (nat_lit 1) wk)))
theorem farM_eq (G : GM) (wk : Nat) : farM G wk = Nat.sub (Nat.lor G.full (Nat.lor (kgN G wk) (Nat.shiftLeft 1 wk))) (Nat.land G.full (Nat.lor (kgN G wk) (Nat.shiftLeft 1 wk))) := rfl
structure Ok2 (G : GM) (fr : List (List Nat)) : Prop extends Ok G where
  far : ∀ i, i < G.sz → sqO 64 (farM G i) 0 [] = some (rowOf fr i)
  frb : ∀ i, i < G.sz → (rowOf fr i).length ≤ 10 ∧ ∀ x ∈ rowOf fr i, x < G.sz
  stp : ∀ i, i < G.sz → sqO 64 (kgN G i) 0 [] = some (nbN G i)
noncomputable def psN (G : GM) : List Nat := (List.range (G.sz - 2 * G.fl)).map fun j => G.sz - G.fl - 1 - j
abbrev SS2 := Nat × List Pl
noncomputable def fstP (G : GM) (p : Pl) : Nat := firstN G p.sd p.st p.pw p.wk
noncomputable def sfS (G : GM) (S : SS2) (p : Pl) : SS2 := (setI G S.1 p (fstP G p), bif Nat.beq (fstP G p) 1 then S.2 ++ [p] else S.2)
noncomputable def sfT (G : GM) (wk pw : Nat) (S : SS2) (st : Nat) : SS2 := sfS G (sfS G S ⟨0, st, pw, wk⟩) ⟨1, st, pw, wk⟩
noncomputable def sfW (G : GM) (fr : List (List Nat)) (pw : Nat) (S : SS2) (wk : Nat) : SS2 := (rowOf fr wk).foldl (sfT G wk pw) S
noncomputable def sfP (G : GM) (fr : List (List Nat)) (S : SS2) (pw : Nat) : SS2 := bif Nat.ble (pw % G.fl + 1) ((G.fl + 1) / 2) then (List.range G.sz).foldl (sfW G fr pw) S else S
theorem first_le (G : GM) (sd st pw wk : Nat) : firstN G sd st pw wk < 65536 := by
  rw [firstN_eq]
  have h : ∀ (b : Bool) (x y : Nat), x < 65536 → y < 65536 → ncase b x y < 65536 := by intro b x y hx hy; cases b <;> assumption
  repeat' first | apply h | (first | lia | omega)
section
variable {G : GM} {fr : List (List Nat)} {b : Nat} {h : H} {g kr pr p0 bb s u z : Nat} {ρ : Nat → Nat} {xs : List Pl}
-- what the makers keep
noncomputable def Kp2 (b u : Nat) (h h' : H) : Prop := h.n ≤ h'.n ∧ ∀ m, m < h.n → m ≠ b → m ≠ u → h'.t.getS m = h.t.getS m
theorem Kp2.trans {b u : Nat} {h h1 h2 : H} (x : Kp2 b u h h1) (y : Kp2 b u h1 h2) : Kp2 b u h h2 := ⟨Nat.le_trans x.1 y.1, fun m hm hb hu => (y.2 m (Nat.lt_of_lt_of_le hm x.1) hb hu).trans (x.2 m hm hb hu)⟩
theorem Kp2.get {b u m : Nat} {h h' : H} (x : Kp2 b u h h') (hm : m < h.n) (hb : m ≠ b) (hu : m ≠ u) : h'.t.get m = h.t.get m := by
  show SO.view _ = SO.view _
  rw [x.2 m hm hb hu]
structure SfI (G : GM) (bb u : Nat) (h0 : H) (n : Nat) (S : SS2) (h : H) : Prop where
  k : Kp bb h0 h
  u1 : h0.n ≤ u
  u2 : u < h.n
  z : h.t.getS bb = .pk S.1 (lenN G)
  l : h.t.get u = .list (S.2.map tupP)
  c : S.2.length ≤ n
  v : ∀ p ∈ S.2, Vp G p
noncomputable abbrev sfB : XS := (sseq (sset (nat_lit 8) (xcall f_first_result (econs (xloc (nat_lit 0)) (econs (xloc (nat_lit 7)) (econs (xloc (nat_lit 6)) (econs (xloc (nat_lit 3)) (econs (xloc (nat_lit 4)) enil)))))))
      (sseq (ssub (xloc (nat_lit 1)) (xcall f_kpk_index (econs (xloc (nat_lit 0)) (econs (xloc (nat_lit 7)) (econs (xloc (nat_lit 6)) (econs (xloc (nat_lit 3)) (econs (xloc (nat_lit 4)) enil)))))) (xloc (nat_lit 8)))
      (sif (xcmp ceq (xloc (nat_lit 8)) (xlit (.int (.ofNat (nat_lit 1)))))
       (sexpr (xappend (xloc (nat_lit 2)) (xtup (econs (xloc (nat_lit 7)) (econs (xloc (nat_lit 6)) (econs (xloc (nat_lit 3)) (econs (xloc (nat_lit 4)) enil)))))))
       spass)))
theorem ru_sfB {h0 : H} {n : Nat} {S : SS2} {x5 x8 : V} {p : Pl} (F : GeoF G bb h0 g kr pr p0) (s' : Ok G) (hb : bb < h0.n) (hr : h0.r ≤ bb) (hp : Vp G p) (hn : n ≤ 100000) (i : SfI G bb u h0 n S h) :
    ∃ h' x8', Ru sfB [.ref g, .ref bb, .ref u, N p.pw, N p.wk, x5, N p.st, N p.sd, x8] h (.nx [.ref g, .ref bb, .ref u, N p.pw, N p.wk, x5, N p.st, N p.sd, x8'] h') ∧ SfI G bb u h0 (n + 1) (sfS G S p) h' ∧ Kp2 bb u h h' := by
  obtain ⟨hp1, hp2, hp3, hp4⟩ := id hp
  have bd := s'.bd
  have hL := lenN_le s'.toSh
  have FF := F.kp i.k
  have c1 := fc_first (sd := p.sd) FF s'.toSh hp2 (by have := hp3.2.1; (first | lia | omega) : p.pw < G.sz) hp4
  have c2 := fc_kpk_index (sd := p.sd) (st := p.st) FF s'.toSh hp3.1 (by have := hp3.2.1; (first | lia | omega)) (by (first | lia | omega)) (by (first | lia | omega) : p.wk < 1000)
  have il := idx_lt s'.toSh hp3.1 hp3.2.1 hp3.2.2 hp1 hp2 hp4
  have fl : fstP G p < 65536 := first_le _ _ _ _ _
  have u1 := i.u1
  have u2 := i.u2
  have hk2 : h.r ≤ u := by rw [i.k.2.1]; (first | lia | omega)
  have g1 : (h.setS bb (.pk (setI G S.1 p (fstP G p)) (lenN G))).t.get u = .list (S.2.map tupP) := by
    show SO.view _ = _
    rw [setS_getS, if_neg (by (first | lia | omega))]; exact i.l
  have k1 : Kp bb h0 (h.setS bb (.pk (setI G S.1 p (fstP G p)) (lenN G))) := i.k.trans (Kp.setS bb h _) (.inl rfl)
  have r1 : Ru (sset (nat_lit 8) (xcall f_first_result (econs (xloc (nat_lit 0)) (econs (xloc (nat_lit 7)) (econs (xloc (nat_lit 6)) (econs (xloc (nat_lit 3)) (econs (xloc (nat_lit 4)) enil))))))) [.ref g, .ref bb, .ref u, N p.pw, N p.wk, x5, N p.st, N p.sd, x8] h
    (.nx [.ref g, .ref bb, .ref u, N p.pw, N p.wk, x5, N p.st, N p.sd, N (fstP G p)] h) := ru_set (Ev.ex (ev_cl (by (repeat' first | walk_at "kp_ev" | (first | lia | omega))) c1)) rfl
  have r2 : Ru (ssub (xloc (nat_lit 1)) (xcall f_kpk_index (econs (xloc (nat_lit 0)) (econs (xloc (nat_lit 7)) (econs (xloc (nat_lit 6)) (econs (xloc (nat_lit 3)) (econs (xloc (nat_lit 4)) enil)))))) (xloc (nat_lit 8))) [.ref g, .ref bb, .ref u, N p.pw, N p.wk, x5, N p.st, N p.sd, N (fstP G p)] h
    (.nx [.ref g, .ref bb, .ref u, N p.pw, N p.wk, x5, N p.st, N p.sd, N (fstP G p)] (h.setS bb (.pk (setI G S.1 p (fstP G p)) (lenN G)))) := ru_subP (m := fstP G p) (nv_loc rfl) (ev_ref rfl) (ev_cl (by (repeat' first | walk_at "kp_ev" | (first | lia | omega))) c2) i.z il (by (first | lia | omega)) fl (by rw [i.k.2.1]; (first | lia | omega))
  have c : Tv (xcmp ceq (xloc 8) (xlit (.int (.ofNat 1)))) [.ref g, .ref bb, .ref u, N p.pw, N p.wk, x5, N p.st, N p.sd, N (fstP G p)] (h.setS bb (.pk (setI G S.1 p (fstP G p)) (lenN G))) (Nat.beq (fstP G p) 1) := by (repeat' first | walk_at "kp_ev" | (first | lia | omega))
  have ic := i.c
  cases q : Nat.beq (fstP G p) 1 with
  | true =>
    rw [q] at c
    refine ⟨_, _, ru_seq r1 (ru_seq r2 (ru_ifT c (ru_append (ev_ref rfl) (v := tupP p) (ev_tup (by (repeat' first | walk_at "kp_ev" | (first | lia | omega))) (by simp)) g1 (by simp; (first | lia | omega)) hk2))), ⟨k1.trans (Kp.set u _ _) (.inr u1), u1, u2, ?_, ?_, ?_, ?_⟩, Nat.le_refl _, fun m hm hb hu => by rw [set_getS, if_neg (by (first | lia | omega)), setS_getS, if_neg (by (first | lia | omega))]⟩
    · rw [set_getS, if_neg (by (first | lia | omega)), setS_getS, if_pos rfl]; rfl
    · show SO.view _ = _
      rw [set_getS, if_pos rfl]
      unfold sfS
      rw [q, cond_true, List.map_append]; rfl
    · unfold sfS
      rw [q, cond_true]; simp; (first | lia | omega)
    · unfold sfS
      rw [q, cond_true]
      intro y hy
      rcases List.mem_append.mp hy with hy | hy
      · exact i.v y hy
      · rw [List.mem_singleton] at hy; subst hy; exact hp
  | false =>
    rw [q] at c
    refine ⟨_, _, ru_seq r1 (ru_seq r2 (ru_ifF c ru_pass)), ⟨k1, u1, u2, ?_, ?_, ?_, ?_⟩, Nat.le_refl _, fun m hm hb hu => by rw [setS_getS, if_neg (by (first | lia | omega))]⟩
    · rw [setS_getS, if_pos rfl]; rfl
    · rw [g1]; unfold sfS; rw [q, cond_false]
    · unfold sfS; rw [q, cond_false]; exact Nat.le_succ_of_le ic
    · unfold sfS; rw [q, cond_false]; exact i.v
theorem ru_sfT {h0 : H} {n : Nat} {S : SS2} {x5 x7 x8 : V} {st pw wk : Nat} (F : GeoF G bb h0 g kr pr p0) (s' : Ok G) (hb : bb < h0.n) (hr : h0.r ≤ bb) (h1 : st < G.sz) (h2 : Dm G pw) (h3 : wk < G.sz) (hn : n ≤ 90000) (i : SfI G bb u h0 n S h) :
    ∃ h' x7' x8', Ru (sfor (tvar (nat_lit 7)) (xtup (econs (xlit (.int (.ofNat (nat_lit 0)))) (econs (xlit (.int (.ofNat (nat_lit 1)))) enil))) sfB) [.ref g, .ref bb, .ref u, N pw, N wk, x5, N st, x7, x8] h
      (.nx [.ref g, .ref bb, .ref u, N pw, N wk, x5, N st, x7', x8'] h') ∧ SfI G bb u h0 (n + 2) (sfT G wk pw S st) h' ∧ Kp2 bb u h h' := by
  obtain ⟨h', y8, r1, i1, k1⟩ := ru_sfB (x5 := x5) (x8 := x8) (p := ⟨0, st, pw, wk⟩) F s' hb hr ⟨by show 0 ≤ 1; (first | lia | omega), h1, h2, h3⟩ (by (first | lia | omega)) i
  obtain ⟨h'', z8, r2, i2, k2⟩ := ru_sfB (x5 := x5) (x8 := y8) (p := ⟨1, st, pw, wk⟩) F s' hb hr ⟨by show 1 ≤ 1; (first | lia | omega), h1, h2, h3⟩ (by (first | lia | omega)) i1
  exact ⟨h'', _, z8, ru_tup2 (ev_tup (by (repeat' first | walk_at "kp_ev" | (first | lia | omega))) (by simp)) (ts_var rfl) r1 (ts_var rfl) r2, i2, k1.trans k2⟩
noncomputable abbrev B4 (g bb u pw wk : Nat) (a : List V) : Loc := [.ref g, .ref bb, .ref u, N pw, N wk, getV a 0, getV a 1, getV a 2, getV a 3]
noncomputable abbrev B3 (g bb u pw : Nat) (a : List V) : Loc := [.ref g, .ref bb, .ref u, N pw, getV a 0, getV a 1, getV a 2, getV a 3, getV a 4]
noncomputable abbrev B2 (g bb u : Nat) (a : List V) : Loc := [.ref g, .ref bb, .ref u, getV a 0, getV a 1, getV a 2, getV a 3, getV a 4, getV a 5]
noncomputable abbrev sfWB : XS := sseq (sset (nat_lit 5) (xcall f_squares_of (econs (xbin oxor (xattr (xloc (nat_lit 0)) (nat_lit 3)) (xbin oor (xsub (xattr (xloc (nat_lit 0)) (nat_lit 9)) (xloc (nat_lit 4))) (xbin oshl (xlit (.int (.ofNat (nat_lit 1)))) (xloc (nat_lit 4))))) enil)))
    (sfor (tvar (nat_lit 6)) (xloc (nat_lit 5)) (sfor (tvar (nat_lit 7)) (xtup (econs (xlit (.int (.ofNat (nat_lit 0)))) (econs (xlit (.int (.ofNat (nat_lit 1)))) enil))) sfB))
theorem ru_sfW {h0 : H} {n : Nat} {S : SS2} {a : List V} {pw wk : Nat} (F : GeoF G bb h0 g kr pr p0) (s' : Ok2 G fr) (hb : bb < h0.n) (hr : h0.r ≤ bb) (h2 : Dm G pw) (h3 : wk < G.sz) (hn : n ≤ 80000) (i : SfI G bb u h0 n S h) :
    ∃ h' a', Ru sfWB (B4 g bb u pw wk a) h (.nx (B4 g bb u pw wk a') h') ∧ SfI G bb u h0 (n + 20) (sfW G fr pw S wk) h' := by
  have bd := s'.bd
  have FF := F.kp i.k
  have u1 := i.u1
  have u2 := i.u2
  have ik1 := i.k.1
  have fb := s'.frb wk h3
  obtain ⟨h1, q1, q2, q3', q4⟩ := fc_squares (h := h) (c := h.n) (by rw [i.k.2.1]; (first | lia | omega)) (s'.far wk h3)
  have q3 : Kp bb h h1 := q3'.wk (Nat.le_refl _)
  have i1 : SfI G bb u h0 n S h1 := ⟨i.k.trans q3 (.inl rfl), u1, by (first | lia | omega), by rw [q3'.2.2 bb (by (first | lia | omega)) (by (first | lia | omega))]; exact i.z, by rw [q3'.get (by (first | lia | omega)) (by (first | lia | omega))]; exact i.l, i.c, i.v⟩
  have lp := ru_list (t := tvar 6) (n := h.n) (xs := nats (rowOf fr wk)) (c := xloc 5) (h := h1)
    (a := (sfor (tvar (nat_lit 7)) (xtup (econs (xlit (.int (.ofNat (nat_lit 0)))) (econs (xlit (.int (.ofNat (nat_lit 1)))) enil))) sfB))
    (l := B4 g bb u pw wk [.ref h.n, getV a 1, getV a 2, getV a 3])
    (I := fun i l h' => h.n < h'.n ∧ h'.t.get h.n = .list (nats (rowOf fr wk)) ∧ ∃ a S', l = B4 g bb u pw wk [.ref h.n, getV a 0, getV a 1, getV a 2] ∧ SfI G bb u h0 (n + i * 2) S' h' ∧ ((rowOf fr wk).drop i).foldl (sfT G wk pw) S' = (rowOf fr wk).foldl (sfT G wk pw) S)
    (ev_ref rfl) (fun i l h' x => x.2.1) ⟨q2, q4, [getV a 1, getV a 2, getV a 3], S, rfl, i1, rfl⟩ (fun i l h' hi x => by
      obtain ⟨k1, k2, a, S', rfl, ii, e⟩ := x
      obtain ⟨hj, ej⟩ := nats_get hi
      rw [ej]
      have hx := fb.2 (rowOf fr wk)[i] (List.getElem_mem hj)
      obtain ⟨h2', x7', x8', r, i2, k3⟩ := ru_sfT (x5 := .ref h.n) (x7 := getV a 1) (x8 := getV a 2) (n := n + i * 2) F s'.toOk hb hr hx h2 h3 (by (first | lia | omega)) ii
      rw [List.drop_eq_getElem_cons hj, List.foldl_cons] at e
      exact ⟨_, _, _, ts_var rfl, r, Nat.lt_of_lt_of_le k1 k3.1, (k3.get k1 (by (first | lia | omega)) (by (first | lia | omega))).trans k2, [N (rowOf fr wk)[i], x7', x8'], _, rfl, (by rw [Nat.add_mul, Nat.one_mul, ← Nat.add_assoc]; exact i2), e⟩)
  obtain ⟨l', h', ⟨k1, k2, a', S', rfl, ii, e⟩, lp⟩ := lp
  rw [List.drop_eq_nil_of_le (by simp [nats])] at e
  have e : S' = sfW G fr pw S wk := e
  refine ⟨h', [.ref h.n, getV a' 0, getV a' 1, getV a' 2], ru_seq (ru_set (ev_fc ?_ q1) rfl) lp, ?_⟩
  · rw [farM_eq]
    (repeat' first | walk_at "kp_ev" | (first | lia | omega) | exact FF.e3 rfl | exact FF.ek s'.toSh rfl (nv_loc rfl) h3)
  · rw [← e]
    refine ⟨ii.k, ii.u1, ii.u2, ii.z, ii.l, ?_, ii.v⟩
    have := ii.c
    have : (nats (rowOf fr wk)).length ≤ 10 := by simpa [nats] using fb.1
    (first | lia | omega)
-- the pawns' loop
theorem ru_range3 {a b c : XE} {l : Loc} {h : H} {i j : Nat} {m : Int} (ha : Ev a l h (N i)) (hb : Ev b l h (N j)) (hc : Ev c l h (.int m)) (hi : i < 2 ^ 60) (hj : j < 2 ^ 60) (hm : stepOk m = true) : Ev (xrange3 a b c) l h (.range (.ofNat i) (.ofNat j) m) := fun k => by
  show a l h _ = _
  rw [ha]
  show b l h _ = _
  rw [hb]
  show c l h _ = _
  rw [hc]
  show small (.ofNat i) (small (.ofNat j) (bcase (stepOk m) _ false) false) false = _
  rw [small_in (by simp only [Int.ofNat_eq_natCast]; (first | lia | omega)) (by simp only [Int.ofNat_eq_natCast]; (first | lia | omega)), small_in (by simp only [Int.ofNat_eq_natCast]; (first | lia | omega)) (by simp only [Int.ofNat_eq_natCast]; (first | lia | omega)), hm]
  rfl
theorem ps_len (s : Sh G) : rcount (.ofNat (G.sz - G.fl - 1)) (.ofNat (G.fl - 1)) (.negSucc 0) = (psN G).length := by
  unfold psN
  rw [List.length_map, List.length_range]
  rcases s.sh with ⟨x, y, z⟩ | ⟨x, y, z⟩ | ⟨x, y, z⟩ | ⟨x, y, z⟩ <;> rw [x, z] <;> rfl
theorem ps_get (s : Sh G) (j : Nat) (hj : j < (psN G).length) : (Int.ofNat (G.sz - G.fl - 1)) + (Int.negSucc 0) * (j : Int) = ((psN G)[j] : Nat) ∧ G.fl ≤ (psN G)[j] ∧ (psN G)[j] < G.sz - G.fl := by
  have e : (psN G)[j] = G.sz - G.fl - 1 - j := by simp [psN]
  have hl : j < G.sz - 2 * G.fl := by simpa [psN] using hj
  have := s.bd
  rw [e, Int.negSucc_eq]
  simp only [Int.ofNat_eq_natCast]
  refine ⟨by (first | lia | omega), by (first | lia | omega), by (first | lia | omega)⟩
theorem foldl_drop {α β : Type} (f : β → α → β) (xs : List α) {i : Nat} (hi : i < xs.length) (S : β) : (xs.drop i).foldl f S = (xs.drop (i + 1)).foldl f (f S xs[i]) := by rw [List.drop_eq_getElem_cons hi]; rfl
set_option maxHeartbeats 1000000 in
theorem fc_first_all (F : GeoF G bb h g kr pr p0) (s' : Ok2 G fr) (hb : bb < h.n) (hr : h.r ≤ bb) (hz : h.t.getS bb = .pk z (lenN G)) :
    ∃ h', Fc f_settle_first [.ref g, .ref bb] h (.ref h.n) h' ∧ SfI G bb h.n h 2000 ((psN G).foldl (sfP G fr) (z, [])) h' := by
  have bd := s'.bd
  have i0 : SfI G bb h.n h 0 (z, []) (h.new (.list [])) := ⟨Kp.new bb h _, Nat.le_refl _, Nat.lt_succ_self _, by rw [new_getS, if_neg (by (first | lia | omega))]; exact hz, by show SO.view _ = _; rw [new_getS, if_pos rfl]; rfl, Nat.le_refl _, fun _ hp => by cases hp⟩
  have lp := ru_for (t := tvar 3) (ps := psN G) (x := .ofNat (G.sz - G.fl - 1)) (y := .ofNat (G.fl - 1)) (st := .negSucc 0) (h := h.new (.list []))
    (a := (sif (xcmp clt (xbin omod (xloc (nat_lit 3)) (xattr (xloc (nat_lit 0)) (nat_lit 0))) (xcall f_pawn_files (econs (xloc (nat_lit 0)) enil)))
      (sfor (tvar (nat_lit 4)) (xrange1 (xattr (xloc (nat_lit 0)) (nat_lit 2))) sfWB) spass))
    (c := xrange3 (xbin osub (xbin osub (xattr (xloc (nat_lit 0)) (nat_lit 2)) (xattr (xloc (nat_lit 0)) (nat_lit 0))) (xlit (.int (.ofNat (nat_lit 1))))) (xbin osub (xattr (xloc (nat_lit 0)) (nat_lit 0)) (xlit (.int (.ofNat (nat_lit 1))))) (xneg (xlit (.int (.ofNat (nat_lit 1))))))
    (l := B2 g bb h.n [])
    (I := fun i l h' => ∃ a S', l = B2 g bb h.n a ∧ SfI G bb h.n h (i * 200) S' h' ∧ ((psN G).drop i).foldl (sfP G fr) S' = (psN G).foldl (sfP G fr) (z, []))
    (ru_range3 (i := G.sz - G.fl - 1) (j := G.fl - 1) (m := .negSucc 0) (by (repeat' first | walk_at "kp_ev" | (first | lia | omega) | exact (F.kp (Kp.new bb h _)).e2 rfl | exact (F.kp (Kp.new bb h _)).e0 rfl)) (by (repeat' first | walk_at "kp_ev" | (first | lia | omega) | exact (F.kp (Kp.new bb h _)).e0 rfl)) (ev_neg ev_lit) (by (first | lia | omega)) (by (first | lia | omega)) rfl)
    (ps_len s'.toSh) (fun j hj => (ps_get s'.toSh j hj).1) ⟨[], (z, []), rfl, (by rw [Nat.zero_mul]; exact i0), rfl⟩ (fun k l h' hk x => by
      obtain ⟨a, S', rfl, ii, e⟩ := x
      obtain ⟨-, d1, d2⟩ := ps_get s'.toSh k hk
      have hk6 : k < 6 := by
        have : k < G.sz - 2 * G.fl := by simpa [psN] using hk
        (first | lia | omega)
      have FF := F.kp ii.k
      rw [foldl_drop _ _ hk] at e
      have c : Tv (xcmp clt (xbin omod (xloc (nat_lit 3)) (xattr (xloc (nat_lit 0)) (nat_lit 0))) (xcall f_pawn_files (econs (xloc (nat_lit 0)) enil))) (B3 g bb h.n (psN G)[k] [getV a 1, getV a 2, getV a 3, getV a 4, getV a 5]) h' (Nat.ble ((psN G)[k] % G.fl + 1) ((G.fl + 1) / 2)) := by
        (repeat' first | walk_at "kp_ev" | (first | lia | omega) | exact FF.e0 rfl | with_reducible refine ev_cl ?_ (fc_pawn_files FF s'.toSh))
      cases q : Nat.ble ((psN G)[k] % G.fl + 1) ((G.fl + 1) / 2) with
      | false =>
        rw [q] at c
        refine ⟨_, _, _, ts_var rfl, ru_ifF c ru_pass, [N (psN G)[k], getV a 1, getV a 2, getV a 3, getV a 4, getV a 5], S', rfl, ⟨ii.k, ii.u1, ii.u2, ii.z, ii.l, by have := ii.c; (first | lia | omega), ii.v⟩, ?_⟩
        rw [← e]; unfold sfP; rw [q, cond_false]
      | true =>
        rw [q] at c
        have dm : Dm G (psN G)[k] := ⟨d1, d2, by have := Nat.le_of_ble_eq_true q; (first | lia | omega)⟩
        have lq := ru_for1 (x := 4) (n := G.sz) (h := h')
          (a := sfWB)
          (c := xrange1 (xattr (xloc (nat_lit 0)) (nat_lit 2))) (l := B3 g bb h.n (psN G)[k] [getV a 1, getV a 2, getV a 3, getV a 4, getV a 5])
          (I := fun i l h' => ∃ a S'', l = B3 g bb h.n (psN G)[k] a ∧ SfI G bb h.n h (k * 200 + i * 20) S'' h' ∧ ((List.range G.sz).drop i).foldl (sfW G fr (psN G)[k]) S'' = (List.range G.sz).foldl (sfW G fr (psN G)[k]) S')
          (ev_range1 (FF.e2 rfl) (by (first | lia | omega))) ⟨_, S', rfl, (by rw [Nat.zero_mul]; exact ii), rfl⟩ (fun i l h'' hi y => by
            obtain ⟨a, S'', rfl, i3, e3⟩ := y
            have il : i < (List.range G.sz).length := by simpa using hi
            rw [foldl_drop _ _ il] at e3
            obtain ⟨h3, a', r, i4⟩ := ru_sfW (a := [getV a 1, getV a 2, getV a 3, getV a 4]) (n := k * 200 + i * 20) F s' hb hr dm hi (by (first | lia | omega)) i3
            refine ⟨_, _, h3, rfl, r, [N i, getV a' 0, getV a' 1, getV a' 2, getV a' 3], _, rfl, (by rw [Nat.add_mul i 1, Nat.one_mul, ← Nat.add_assoc]; exact i4), ?_⟩
            rw [← e3]; simp)
        obtain ⟨l2, h2, ⟨a', T, rfl, i5, e5⟩, rq⟩ := lq
        rw [List.drop_eq_nil_of_le (by simp)] at e5
        have e5 : T = (List.range G.sz).foldl (sfW G fr (psN G)[k]) S' := e5
        refine ⟨_, _, h2, ts_var rfl, ru_ifT c rq, [N (psN G)[k], getV a' 0, getV a' 1, getV a' 2, getV a' 3, getV a' 4], T, rfl, ⟨i5.k, i5.u1, i5.u2, i5.z, i5.l, by have := i5.c; (first | lia | omega), i5.v⟩, ?_⟩
        rw [← e]; unfold sfP; rw [q, cond_true, ← e5])
  obtain ⟨l', h', ⟨a', S', rfl, ii, e⟩, lp⟩ := lp
  rw [List.drop_eq_nil_of_le (Nat.le_refl _)] at e
  have e : S' = (psN G).foldl (sfP G fr) (z, []) := e
  refine ⟨h', fc_fn rfl (ru_seq (ru_set ex_nil rfl) (ru_seq lp (ru_ret (Ev.ex (ev_ref rfl))))), ?_⟩
  rw [← e]
  have hl : (psN G).length ≤ 10 := by
    unfold psN; rw [List.length_map, List.length_range]; (first | lia | omega)
  exact ⟨ii.k, ii.u1, ii.u2, ii.z, ii.l, by have := ii.c; (first | lia | omega), ii.v⟩
end
-- part Sy6
-- Sy6: build_kpk (own work)
noncomputable def H.newS (h : H) (o : SO) : H := ⟨h.t.putS o h.n, h.n + 1, h.r⟩
theorem newS_getS (h : H) (o : SO) (m : Nat) : (h.newS o).t.getS m = if h.n = m then o else h.t.getS m := tget_putS _ _ _ _
theorem Kp.newS (b : Nat) (h : H) (o : SO) : Kp b h (h.newS o) := ⟨Nat.le_succ _, rfl, fun m hm _ => by rw [newS_getS, if_neg (by (first | lia | omega))]⟩
theorem allocS_eq (o : SO) (h : H) (k : V → H → Bool) : allocS o h k = k (.ref h.n) (h.newS o) := by cases h; rfl
theorem ex_rep0 {b : XE} {l : Loc} {h : H} {j : Nat} (hb : Ev b l h (N j)) (hj : j ≤ 1000000) : Ex (xrep (xlit (.int (.ofNat (nat_lit 0)))) b) l h (.ref h.n) (h.newS (.pk 0 j)) := fun k => by
  show b l h _ = _
  rw [hb]
  show bcase (Nat.ble j 1000000) (allocS (.pk 0 j) h k) false = _
  rw [Nat.ble_eq_true_of_le hj, bcase_t, allocS_eq]
noncomputable def bldS (G : GM) : Nat → Nat → List Pl → Option (Nat × List Pl)
  | 0, _, _ => none
  | f + 1, z, unk => bif Nat.beq (rndS G unk z []).2.length unk.length then some ((rndS G unk z []).1, unk) else bldS G f (rndS G unk z []).1 (rndS G unk z []).2
noncomputable def finS (G : GM) (xs : List Pl) (z : Nat) : Nat := xs.foldl (fun z p => setI G z p 2) z
noncomputable def sfAll (G : GM) (fr : List (List Nat)) : SS2 := (psN G).foldl (sfP G fr) (0, [])
noncomputable def buildS (G : GM) (fr : List (List Nat)) : Option Nat := match bldS G 64 (sfAll G fr).1 (sfAll G fr).2 with
  | none => none
  | some (z, unk) => some (finS G unk z)
section
variable {G : GM} {fr : List (List Nat)} {b : Nat} {h : H} {g kr pr p0 bb s u z : Nat} {ρ : Nat → Nat} {xs : List Pl}
theorem fc_kpk_size (F : GeoF G b h g kr pr p0) (s : Sh G) : Fc f_kpk_size [.ref g] h (N (lenN G)) h := by
  have := s.bd
  have q1 : (G.fl + 1) / 2 * (G.rk - 2) ≤ 2 * 3 := Nat.mul_le_mul (by (first | lia | omega)) (by (first | lia | omega))
  have q2 : (G.fl + 1) / 2 * (G.rk - 2) * 2 * G.sz ≤ 12 * 10 := Nat.mul_le_mul (by (first | lia | omega)) (by (first | lia | omega))
  rw [lenN_eq]
  refine fc_fn rfl (ru_ret (Ev.ex ?_))
  (repeat' first | walk_at "kp_ev" | (first | lia | omega) | exact F.e1 rfl | exact F.e2 rfl | with_reducible refine ev_cl ?_ (fc_pawn_files F s))
-- the rounds
noncomputable abbrev bldB : XS := (sseq (sset (nat_lit 5) (xcall f_settle_round (econs (xloc (nat_lit 0)) (econs (xloc (nat_lit 1)) (econs (xloc (nat_lit 2)) (econs (xloc (nat_lit 4)) enil))))))
  (sseq (sif (xcmp ceq (xlen (xloc (nat_lit 5))) (xlen (xloc (nat_lit 4))))
   sbreak
   spass)
  (sset (nat_lit 4) (xloc (nat_lit 5)))))
theorem ru_bld {x3 x6 x7 x8 x9 : V} {h0 : H} {z' : Nat} {xs' : List Pl} (F : GeoF G bb h0 g kr pr p0) (s' : Ok G) (R : RowsF G bb h0 s ρ) (hb : bb < h0.n) (hr : h0.r ≤ bb) :
    ∀ (f : Nat) (h : H) (u z : Nat) (xs : List Pl) (x5 : V), bldS G f z xs = some (z', xs') → Kp bb h0 h → h.t.getS bb = .pk z (lenN G) → Ow bb h u → h.t.get u = .list (xs.map tupP) → (∀ p ∈ xs, Vp G p) → xs.length ≤ 100000 →
      ∃ h' u' x5', Ru (swhile (xlit (.bool true)) bldB f) [.ref g, .ref bb, .ref s, x3, .ref u, x5, x6, x7, x8, x9] h (.nx [.ref g, .ref bb, .ref s, x3, .ref u', x5', x6, x7, x8, x9] h') ∧ Kp bb h0 h' ∧ h'.t.getS bb = .pk z' (lenN G) ∧ Ow bb h' u' ∧ h'.t.get u' = .list (xs'.map tupP) ∧ (∀ p ∈ xs', Vp G p) ∧ xs'.length ≤ 100000
  | 0, h, u, z, xs, x5, e, _, _, _, _, _, _ => by cases e
  | f + 1, h, u, z, xs, x5, e, k, hz, hu, hx, hv, hl => by
    have k1 := k.1
    obtain ⟨h1, q1, q2, q3, q4, q5⟩ := fc_round (F.kp k) s' (R.kp k) hz (by (first | lia | omega)) (by rw [k.2.1]; exact hr) hu hx hv hl
    have hu1 := hu.get q2
    have ll := rnd_len G xs z []
    simp only [List.length_nil, Nat.zero_add] at ll
    unfold bldS at e
    have r1 : Ru (sset (nat_lit 5) (xcall f_settle_round (econs (xloc (nat_lit 0)) (econs (xloc (nat_lit 1)) (econs (xloc (nat_lit 2)) (econs (xloc (nat_lit 4)) enil)))))) [.ref g, .ref bb, .ref s, x3, .ref u, x5, x6, x7, x8, x9] h
      (.nx [.ref g, .ref bb, .ref s, x3, .ref u, .ref h.n, x6, x7, x8, x9] h1) := ru_set (ev_fc (by (repeat' first | walk_at "kp_ev" | (first | lia | omega))) q1) rfl
    have c : Tv (xcmp ceq (xlen (xloc 5)) (xlen (xloc 4))) [.ref g, .ref bb, .ref s, x3, .ref u, .ref h.n, x6, x7, x8, x9] h1 (Nat.beq (rndS G xs z []).2.length xs.length) := by
      have e1 := ev_lenL (l := [.ref g, .ref bb, .ref s, x3, .ref u, .ref h.n, x6, x7, x8, x9]) (a := xloc 5) (ev_ref rfl) q5 (by rw [List.length_map]; (first | lia | omega))
      have e2 := ev_lenL (l := [.ref g, .ref bb, .ref s, x3, .ref u, .ref h.n, x6, x7, x8, x9]) (a := xloc 4) (ev_ref rfl) (hu1.trans hx) (by rw [List.length_map]; (first | lia | omega))
      rw [List.length_map] at e1 e2
      exact tv_bool (ev_ceq e1 e2)
    have tt : Tv (xlit (.bool true)) [.ref g, .ref bb, .ref s, x3, .ref u, x5, x6, x7, x8, x9] h true := tv_bool ev_lit
    cases q : Nat.beq (rndS G xs z []).2.length xs.length with
    | true =>
      rw [q] at c
      rw [q, cond_true] at e
      obtain ⟨rfl, rfl⟩ : (rndS G xs z []).1 = z' ∧ xs = xs' := by simpa using e
      exact ⟨h1, u, _, ru_wbreak tt (ru_seq r1 (ru_seqb (ru_ifT c ru_break))), k.trans q2 (.inl rfl), q4, hu.kp q2, hu1.trans hx, hv, hl⟩
    | false =>
      rw [q] at c
      rw [q, cond_false] at e
      have hv' : ∀ p ∈ (rndS G xs z []).2, Vp G p := fun p hp => by
        rcases rnd_mem G xs z [] p hp with h | h
        · cases h
        · exact hv p h
      obtain ⟨h2, u', x5', r2, w⟩ := ru_bld F s' R hb hr f h1 h.n (rndS G xs z []).1 (rndS G xs z []).2 (.ref h.n) e (k.trans q2 (.inl rfl)) q4 ⟨q3, by (first | lia | omega)⟩ q5 hv' (by (first | lia | omega))
      exact ⟨h2, u', x5', ru_wnext tt (ru_seq r1 (ru_seq (ru_ifF c ru_pass) (ru_set (ev_ref (i := 5) rfl).ex rfl))) r2, w⟩
set_option maxHeartbeats 1000000 in
theorem fc_build (F : GeoF G h.n h g kr pr p0) (s' : Ok2 G fr) (hr : h.r ≤ h.n) (hB : buildS G fr = some z) :
    ∃ h', Fc f_build_kpk [.ref g] h (.ref h.n) h' ∧ Kp h.n h h' ∧ h.n < h'.n ∧ h'.t.getS h.n = .pk z (lenN G) := by
  have bd := s'.bd
  have hL := lenN_le s'.toSh
  have r1 : Ru (sset (nat_lit 1) (xrep (xlit (.int (.ofNat (nat_lit 0)))) (xcall f_kpk_size (econs (xloc (nat_lit 0)) enil)))) [.ref g, .unb, .unb, .unb, .unb, .unb, .unb, .unb, .unb, .unb] h
      (.nx [.ref g, .ref h.n, .unb, .unb, .unb, .unb, .unb, .unb, .unb, .unb] (h.newS (.pk 0 (lenN G)))) := ru_set (ex_rep0 (ev_cl (by (repeat' first | walk_at "kp_ev" | (first | lia | omega))) (fc_kpk_size F s'.toSh)) (by (first | lia | omega))) rfl
  have r2 : Ru (sset (nat_lit 2) (xlist enil)) [.ref g, .ref h.n, .unb, .unb, .unb, .unb, .unb, .unb, .unb, .unb] (h.newS (.pk 0 (lenN G)))
      (.nx [.ref g, .ref h.n, .ref (h.n + 1), .unb, .unb, .unb, .unb, .unb, .unb, .unb] ((h.newS (.pk 0 (lenN G))).new (.list []))) := ru_set ex_nil rfl
  have k0 : Kp h.n h ((h.newS (.pk 0 (lenN G))).new (.list [])) := (Kp.newS h.n h _).trans (Kp.new h.n _ _) (.inl rfl)
  have F0 := F.kp k0
  have lp := ru_for1 (x := 3) (n := G.sz) (h := (h.newS (.pk 0 (lenN G))).new (.list []))
    (a := sexpr (xappend (xloc (nat_lit 2)) (xcall f_squares_of (econs (xsub (xattr (xloc (nat_lit 0)) (nat_lit 9)) (xloc (nat_lit 3))) enil))))
    (c := xrange1 (xattr (xloc (nat_lit 0)) (nat_lit 2))) (l := [.ref g, .ref h.n, .ref (h.n + 1), .unb, .unb, .unb, .unb, .unb, .unb, .unb])
    (I := fun i l h' => ∃ x3 ρ, l = [.ref g, .ref h.n, .ref (h.n + 1), x3, .unb, .unb, .unb, .unb, .unb, .unb] ∧ Kp h.n h h' ∧ h.n + 1 < h'.n ∧ h'.t.getS h.n = .pk 0 (lenN G) ∧ h'.t.get (h.n + 1) = .list ((List.range i).map fun j => .ref (ρ j)) ∧ ∀ j, j < i → h.n + 1 < ρ j ∧ ρ j < h'.n ∧ h'.t.get (ρ j) = .list (nats (nbN G j)))
    (ev_range1 (F0.e2 rfl) (by (first | lia | omega)))
    ⟨.unb, fun _ => 0, rfl, k0, Nat.lt_succ_self _, (by rw [new_getS, if_neg (by show h.n + 1 ≠ h.n; (first | lia | omega)), newS_getS, if_pos rfl]), (by show SO.view _ = _; rw [new_getS, if_pos (show (h.newS (.pk 0 (lenN G))).n = h.n + 1 from rfl)]; rfl), fun j hj => by (first | lia | omega)⟩
    (fun i l h' hi x => by
      obtain ⟨x3, ρ, rfl, k, hn, hz, hs, hρ⟩ := x
      have FF := F.kp k
      have kr := k.2.1
      obtain ⟨h1, q1, q2, q3, q4⟩ := fc_squares (h := h') (c := h'.n) (by rw [kr]; (first | lia | omega)) (s'.stp i hi)
      have g1 : h1.t.get (h.n + 1) = .list ((List.range i).map fun j => .ref (ρ j)) := (q3.get (by (first | lia | omega)) (by (first | lia | omega))).trans hs
      refine ⟨_, _, _, rfl, ru_expr (ex_append (ev_ref rfl) hs (ev_fc (by (repeat' first | walk_at "kp_ev" | (first | lia | omega) | exact FF.ek s'.toSh rfl (nv_loc rfl) hi)) q1) g1 (by simp; (first | lia | omega)) (by rw [q3.2.1, kr]; (first | lia | omega))), _, fun j => if j = i then h'.n else ρ j, rfl,
        (k.trans (q3.wk (b := h.n) (Nat.le_refl _)) (.inl rfl)).trans (Kp.set (h.n + 1) h1 _) (.inr (by (first | lia | omega))), by show h.n + 1 < h1.n; (first | lia | omega), ?_, ?_, fun j hj => ?_⟩
      · rw [set_getS, if_neg (by (first | lia | omega)), q3.2.2 _ (by (first | lia | omega)) (by (first | lia | omega))]; exact hz
      · show SO.view _ = _
        rw [set_getS, if_pos rfl]
        show AO.list _ = AO.list _
        rw [List.range_succ, List.map_append]
        congr 2
        · refine List.map_congr_left fun j hj => ?_
          have : ¬ j = i := by rw [List.mem_range] at hj; (first | lia | omega)
          simp [this]
        · simp
      · by_cases q : j = i
        · subst q
          rw [show (fun k => if k = j then h'.n else ρ k) j = h'.n from if_pos rfl]
          refine ⟨by (first | lia | omega), q2, ?_⟩
          show SO.view _ = _
          rw [set_getS, if_neg (by (first | lia | omega))]; exact q4
        · rw [show (fun k => if k = i then h'.n else ρ k) j = ρ j from if_neg q]
          obtain ⟨w1, w2, w3⟩ := hρ j (by (first | lia | omega))
          refine ⟨w1, by show _ < h1.n; (first | lia | omega), ?_⟩
          show SO.view _ = _
          rw [set_getS, if_neg (by (first | lia | omega))]
          exact (q3.get w2 (by (first | lia | omega))).trans w3)
  obtain ⟨l1, h1, ⟨x3, ρ, rfl, k1, hn1, hz1, hs1, hρ⟩, lp⟩ := lp
  have F1 := F.kp k1
  have R1 : RowsF G h.n h1 (h.n + 1) ρ := ⟨⟨⟨hn1, by (first | lia | omega)⟩, fun i hi => ⟨(hρ i hi).2.1, by have := (hρ i hi).1; (first | lia | omega)⟩⟩, ⟨_, hs1, fun i hi => by simp [hi]⟩, fun i hi => (hρ i hi).2.2⟩
  have kr1 := k1.2.1
  obtain ⟨h2, f2, i2⟩ := fc_first_all F1 s' (by (first | lia | omega) : h.n < h1.n) (by rw [kr1]; exact hr) hz1
  have r4 : Ru (sset (nat_lit 4) (xcall f_settle_first (econs (xloc (nat_lit 0)) (econs (xloc (nat_lit 1)) enil)))) [.ref g, .ref h.n, .ref (h.n + 1), x3, .unb, .unb, .unb, .unb, .unb, .unb] h1
      (.nx [.ref g, .ref h.n, .ref (h.n + 1), x3, .ref h1.n, .unb, .unb, .unb, .unb, .unb] h2) := ru_set (ev_fc (by (repeat' first | walk_at "kp_ev" | (first | lia | omega))) f2) rfl
  unfold buildS at hB
  cases hb : bldS G 64 (sfAll G fr).1 (sfAll G fr).2 with
  | none => rw [hb] at hB; cases hB
  | some p =>
    obtain ⟨z', xs'⟩ := p
    rw [hb] at hB
    obtain rfl : finS G xs' z' = z := by simpa using hB
    have k2 := k1.trans i2.k (.inl rfl)
    have u1 := i2.u1
    obtain ⟨h3, u3, x5, r5, k3, hz3, hu3, hx3, hv3, hl3⟩ := ru_bld (x3 := x3) (x6 := .unb) (x7 := .unb) (x8 := .unb) (x9 := .unb) (F1.kp i2.k) s'.toOk (R1.kp i2.k) (by have := k2.1; have := i2.u2; (first | lia | omega)) (by rw [k2.2.1]; exact hr) 64 h2 h1.n _ _ .unb hb (Kp.refl _ _) i2.z ⟨i2.u2, by (first | lia | omega)⟩ i2.l i2.v (Nat.le_trans i2.c (by (first | lia | omega)))
    have k4 := k2.trans k3 (.inl rfl)
    have lq := ru_list (t := ttup [6, 7, 8, 9]) (n := u3) (xs := xs'.map tupP) (c := xloc 4) (h := h3)
      (a := (ssub (xloc (nat_lit 1)) (xcall f_kpk_index (econs (xloc (nat_lit 0)) (econs (xloc (nat_lit 6)) (econs (xloc (nat_lit 7)) (econs (xloc (nat_lit 8)) (econs (xloc (nat_lit 9)) enil)))))) (xlit (.int (.ofNat (nat_lit 2))))))
      (l := [.ref g, .ref h.n, .ref (h.n + 1), x3, .ref u3, x5, .unb, .unb, .unb, .unb])
      (I := fun i l h' => ∃ x6 x7 x8 x9 z'', l = [.ref g, .ref h.n, .ref (h.n + 1), x3, .ref u3, x5, x6, x7, x8, x9] ∧ Kp h.n h3 h' ∧ h'.t.getS h.n = .pk z'' (lenN G) ∧ finS G (xs'.drop i) z'' = finS G xs' z')
      (ev_ref rfl) (fun i l h' x => by
        obtain ⟨_, _, _, _, _, _, k, _⟩ := x
        rw [hu3.get k]; exact hx3) ⟨.unb, .unb, .unb, .unb, z', rfl, Kp.refl _ _, hz3, rfl⟩ (fun i l h' hi x => by
        obtain ⟨x6, x7, x8, x9, z'', rfl, k, hz, e⟩ := x
        obtain ⟨hj, ej⟩ := pl_get hi
        rw [ej]
        obtain ⟨hp1, hp2, hp3, hp4⟩ := hv3 xs'[i] (List.getElem_mem hj)
        have hi' := fc_kpk_index (sd := xs'[i].sd) (st := xs'[i].st) (F.kp (k4.trans k (.inl rfl))) s'.toSh hp3.1 (by have := hp3.2.1; (first | lia | omega)) (by (first | lia | omega)) (by (first | lia | omega) : xs'[i].wk < 1000)
        have il := idx_lt s'.toSh hp3.1 hp3.2.1 hp3.2.2 hp1 hp2 hp4
        refine ⟨_, _, _, fun _ => rfl, ru_subP (m := 2) ev_k2 (ev_ref rfl) (ev_cl (by (repeat' first | walk_at "kp_ev" | (first | lia | omega))) hi') hz il (by (first | lia | omega)) (by (first | lia | omega)) (by rw [k.2.1, k3.2.1, k2.2.1]; exact hr), _, _, _, _, setI G z'' xs'[i] 2, rfl, k.trans (Kp.setS h.n h' _) (.inl rfl), (by rw [setS_getS, if_pos rfl]; rfl), ?_⟩
        rw [← e]
        unfold finS
        rw [foldl_drop _ xs' hj])
    obtain ⟨l4, h4, ⟨x6, x7, x8, x9, z'', rfl, k5, hz5, e5⟩, lq⟩ := lq
    rw [List.drop_eq_nil_of_le (by simp)] at e5
    have e5 : z'' = finS G xs' z' := e5
    refine ⟨h4, fc_fn rfl (ru_seq r1 (ru_seq r2 (ru_seq lp (ru_seq r4 (ru_seq r5 (ru_seq lq (ru_ret (Ev.ex (ev_ref rfl))))))))), k4.trans k5 (.inl rfl), ?_, by rw [← e5]; exact hz5⟩
    have := k2.1
    have := k3.1
    have := k5.1
    have := i2.u2
    (first | lia | omega)
end
-- part Sy7
-- Sy7: the law's near, after, is_won (own work)
theorem sy_iabs (x : Int) : iabs x = (x.natAbs : Int) := by cases x <;> rfl
noncomputable def absD (i j : Nat) : Nat := (i - j) + (j - i)
theorem ev_absD {a b : XE} {l : Loc} {h : H} {i j : Nat} (ha : Ev a l h (N i)) (hb : Ev b l h (N j)) : Ev (xabs (xbin osub a b)) l h (N (absD i j)) := fun k => by
  have e := ev_bin (m := (i : Int) - (j : Int)) ha hb (fun k => o_sub k)
  show xbin osub a b l h _ = _
  rw [e]
  show k (.int (iabs ((i : Int) - (j : Int)))) h = _
  rw [sy_iabs]
  congr 2
  rw [Int.ofNat_eq_natCast]
  unfold absD
  (first | lia | omega)
noncomputable def nearC (fl a b : Nat) : Bool := !(Nat.beq a b) && (!(Nat.ble 2 (absD (a % fl) (b % fl))) && !(Nat.ble 2 (absD (a / fl) (b / fl))))
noncomputable def nearR (fl sz a : Nat) : List Nat := (List.range sz).filter (nearC fl a)
theorem bnt_not (b : Bool) : bnt b = !b := by cases b <;> rfl
theorem bcase_and (a b : Bool) : bcase a b false = (a && b) := by cases a <;> rfl
section
variable {G : GM} {fr : List (List Nat)} {b : Nat} {h : H} {l : Loc}
theorem fc_near (s' : Ok G) (hn : ∀ i, i < G.sz → nearR G.fl G.sz i = nbN G i) (hr : h.r ≤ h.n) :
    ∃ h' ρ, Fc f__law_near [N G.fl, N G.sz] h (.ref h.n) h' ∧ Kp h.n h h' ∧ h.n < h'.n ∧ RowsF G h'.n h' h.n ρ ∧ ∀ i, i < G.sz → h.n < ρ i := by
  have bd := s'.bd
  have lp := ru_for1 (x := 3) (n := G.sz) (h := h.new (.list []))
    (a := (sseq (sset (nat_lit 4) (xlist enil))
      (sseq (sfor (tvar (nat_lit 5)) (xrange1 (xloc (nat_lit 1)))
       (sseq (sset (nat_lit 6) (xabs (xbin osub (xbin omod (xloc (nat_lit 3)) (xloc (nat_lit 0))) (xbin omod (xloc (nat_lit 5)) (xloc (nat_lit 0))))))
       (sseq (sset (nat_lit 7) (xabs (xbin osub (xbin odiv (xloc (nat_lit 3)) (xloc (nat_lit 0))) (xbin odiv (xloc (nat_lit 5)) (xloc (nat_lit 0))))))
       (sif (xand (xcmp cne (xloc (nat_lit 3)) (xloc (nat_lit 5))) (xand (xcmp cle (xloc (nat_lit 6)) (xlit (.int (.ofNat (nat_lit 1))))) (xcmp cle (xloc (nat_lit 7)) (xlit (.int (.ofNat (nat_lit 1)))))))
        (sexpr (xappend (xloc (nat_lit 4)) (xloc (nat_lit 5))))
        spass))))
      (sexpr (xappend (xloc (nat_lit 2)) (xloc (nat_lit 4)))))))
    (c := xrange1 (xloc (nat_lit 1))) (l := [N G.fl, N G.sz, .ref h.n, .unb, .unb, .unb, .unb, .unb])
    (I := fun i l h' => ∃ x3 x4 x5 x6 x7 ρ, l = [N G.fl, N G.sz, .ref h.n, x3, x4, x5, x6, x7] ∧ Kp h.n h h' ∧ h.n < h'.n ∧ h'.t.get h.n = .list ((List.range i).map fun j => .ref (ρ j)) ∧ ∀ j, j < i → h.n < ρ j ∧ ρ j < h'.n ∧ h'.t.get (ρ j) = .list (nats (nearR G.fl G.sz j)))
    (ev_range1 (nv_loc rfl) (by (first | lia | omega)))
    ⟨.unb, .unb, .unb, .unb, .unb, fun _ => 0, rfl, Kp.new h.n h _, Nat.lt_succ_self _, (by show SO.view _ = _; rw [new_getS, if_pos rfl]; rfl), fun j hj => by (first | lia | omega)⟩
    (fun i l h' hi x => by
      obtain ⟨x3, x4, x5, x6, x7, ρ, rfl, k, hn, hs, hρ⟩ := x
      have kr := k.2.1
      have lq := ru_for1 (x := 5) (n := G.sz) (h := h'.new (.list []))
        (a := (sseq (sset (nat_lit 6) (xabs (xbin osub (xbin omod (xloc (nat_lit 3)) (xloc (nat_lit 0))) (xbin omod (xloc (nat_lit 5)) (xloc (nat_lit 0))))))
         (sseq (sset (nat_lit 7) (xabs (xbin osub (xbin odiv (xloc (nat_lit 3)) (xloc (nat_lit 0))) (xbin odiv (xloc (nat_lit 5)) (xloc (nat_lit 0))))))
         (sif (xand (xcmp cne (xloc (nat_lit 3)) (xloc (nat_lit 5))) (xand (xcmp cle (xloc (nat_lit 6)) (xlit (.int (.ofNat (nat_lit 1))))) (xcmp cle (xloc (nat_lit 7)) (xlit (.int (.ofNat (nat_lit 1)))))))
          (sexpr (xappend (xloc (nat_lit 4)) (xloc (nat_lit 5))))
          spass))))
        (c := xrange1 (xloc (nat_lit 1))) (l := [N G.fl, N G.sz, .ref h.n, N i, .ref h'.n, x5, x6, x7])
        (I := fun j l h2 => ∃ x5 x6 x7, l = [N G.fl, N G.sz, .ref h.n, N i, .ref h'.n, x5, x6, x7] ∧ Kp h'.n h' h2 ∧ h'.n < h2.n ∧ h2.t.get h'.n = .list (nats ((List.range j).filter (nearC G.fl i))))
        (ev_range1 (nv_loc rfl) (by (first | lia | omega))) ⟨x5, x6, x7, rfl, Kp.new h'.n h' _, Nat.lt_succ_self _, (by show SO.view _ = _; rw [new_getS, if_pos rfl]; rfl)⟩
        (fun j l h2 hj y => by
          obtain ⟨y5, y6, y7, rfl, k2, hn2, hx2⟩ := y
          have r1 : Ru (sset (nat_lit 6) (xabs (xbin osub (xbin omod (xloc (nat_lit 3)) (xloc (nat_lit 0))) (xbin omod (xloc (nat_lit 5)) (xloc (nat_lit 0)))))) [N G.fl, N G.sz, .ref h.n, N i, .ref h'.n, N j, y6, y7] h2
            (.nx [N G.fl, N G.sz, .ref h.n, N i, .ref h'.n, N j, N (absD (i % G.fl) (j % G.fl)), y7] h2) := ru_set (Ev.ex (ev_absD (by (repeat' first | walk_at "kp_ev" | (first | lia | omega))) (by (repeat' first | walk_at "kp_ev" | (first | lia | omega))))) rfl
          have r2 : Ru (sset (nat_lit 7) (xabs (xbin osub (xbin odiv (xloc (nat_lit 3)) (xloc (nat_lit 0))) (xbin odiv (xloc (nat_lit 5)) (xloc (nat_lit 0)))))) [N G.fl, N G.sz, .ref h.n, N i, .ref h'.n, N j, N (absD (i % G.fl) (j % G.fl)), y7] h2
            (.nx [N G.fl, N G.sz, .ref h.n, N i, .ref h'.n, N j, N (absD (i % G.fl) (j % G.fl)), N (absD (i / G.fl) (j / G.fl))] h2) := ru_set (Ev.ex (ev_absD (by (repeat' first | walk_at "kp_ev" | (first | lia | omega))) (by (repeat' first | walk_at "kp_ev" | (first | lia | omega))))) rfl
          have c : Tv (xand (xcmp cne (xloc 3) (xloc 5)) (xand (xcmp cle (xloc 6) (xlit (.int (.ofNat (nat_lit 1))))) (xcmp cle (xloc 7) (xlit (.int (.ofNat (nat_lit 1))))))) [N G.fl, N G.sz, .ref h.n, N i, .ref h'.n, N j, N (absD (i % G.fl) (j % G.fl)), N (absD (i / G.fl) (j / G.fl))] h2 (nearC G.fl i j) := by
            have : nearC G.fl i j = bcase (bnt (Nat.beq i j)) (bcase (bnt (Nat.ble (1 + 1) (absD (i % G.fl) (j % G.fl)))) (bnt (Nat.ble (1 + 1) (absD (i / G.fl) (j / G.fl)))) false) false := by
              rw [bcase_and, bcase_and, bnt_not, bnt_not, bnt_not]; rfl
            rw [this]
            (repeat' first | walk_at "kp_ev" | (first | lia | omega))
          cases q : nearC G.fl i j with
          | true =>
            rw [q] at c
            refine ⟨_, _, _, rfl, ru_seq r1 (ru_seq r2 (ru_ifT c (ru_append (ev_ref rfl) (nv_loc (n := j) rfl) hx2 ?_ (by rw [k2.2.1, kr]; (first | lia | omega))))), _, _, _, rfl, k2.trans (Kp.set h'.n h2 _) (.inl rfl), hn2, ?_⟩
            · have : ((List.range j).filter (nearC G.fl i)).length ≤ j := by simpa using List.length_filter_le (nearC G.fl i) (List.range j)
              simp [nats]; (first | lia | omega)
            · show SO.view _ = _
              rw [set_getS, if_pos rfl, List.range_succ, List.filter_append, nats, nats, List.map_append]
              simp [q]; rfl
          | false =>
            rw [q] at c
            refine ⟨_, _, _, rfl, ru_seq r1 (ru_seq r2 (ru_ifF c ru_pass)), _, _, _, rfl, k2, hn2, ?_⟩
            rw [hx2, List.range_succ, List.filter_append]
            simp [q])
      obtain ⟨l2, h2, ⟨y5, y6, y7, rfl, k2, hn2, hx2⟩, lq⟩ := lq
      have g1 : h2.t.get h.n = .list ((List.range i).map fun j => .ref (ρ j)) := (k2.get (by (first | lia | omega)) (by (first | lia | omega))).trans hs
      refine ⟨_, _, _, rfl, ru_seq (ru_set ex_nil rfl) (ru_seq lq (ru_append (ev_ref rfl) (ev_ref (i := 4) (x := h'.n) rfl) g1 (by simp; (first | lia | omega)) (by rw [k2.2.1, kr]; (first | lia | omega)))), _, _, _, _, _, fun j => if j = i then h'.n else ρ j, rfl,
        (k.trans (k2.wk (b := h.n) (Nat.le_refl _)) (.inl rfl)).trans (Kp.set h.n h2 _) (.inl rfl), by show h.n < h2.n; (first | lia | omega), ?_, fun j hj => ?_⟩
      · show SO.view _ = _
        rw [set_getS, if_pos rfl]
        show AO.list _ = AO.list _
        rw [List.range_succ, List.map_append]
        congr 2
        · refine List.map_congr_left fun j hj => ?_
          have : ¬ j = i := by rw [List.mem_range] at hj; (first | lia | omega)
          simp [this]
        · simp
      · by_cases q : j = i
        · subst q
          rw [show (fun k => if k = j then h'.n else ρ k) j = h'.n from if_pos rfl]
          refine ⟨by (first | lia | omega), hn2, ?_⟩
          show SO.view _ = _
          rw [set_getS, if_neg (by (first | lia | omega))]; exact hx2
        · rw [show (fun k => if k = i then h'.n else ρ k) j = ρ j from if_neg q]
          obtain ⟨w1, w2, w3⟩ := hρ j (by (first | lia | omega))
          refine ⟨w1, by show _ < h2.n; (first | lia | omega), ?_⟩
          show SO.view _ = _
          rw [set_getS, if_neg (by (first | lia | omega))]
          exact (k2.get w2 (by (first | lia | omega))).trans w3)
  obtain ⟨l1, h1, ⟨x3, x4, x5, x6, x7, ρ, rfl, k1, hn1, hs1, hρ⟩, lp⟩ := lp
  exact ⟨h1, ρ, fc_fn rfl (ru_seq (ru_set ex_nil rfl) (ru_seq lp (ru_ret (Ev.ex (ev_ref rfl))))), k1, hn1,
    ⟨⟨⟨hn1, by (first | lia | omega)⟩, fun i hi => ⟨(hρ i hi).2.1, by have := (hρ i hi).2.1; (first | lia | omega)⟩⟩, ⟨_, hs1, fun i hi => by simp [hi]⟩, fun i hi => by rw [← hn i hi]; exact (hρ i hi).2.2⟩, fun i hi => (hρ i hi).1⟩
noncomputable def wonN (sd known count : Nat) : Bool := bcase (Nat.beq sd (nat_lit 0)) (Nat.ble (nat_lit 1) known) (Nat.beq known count)
theorem fc_won (sd known count : Nat) : Fc f__law_is_won [N sd, N known, N count] h (.bool (wonN sd known count)) h := by
  have e : wonN sd known count = bcase (Nat.beq sd 0) (Nat.ble (0 + 1) known) (Nat.beq known count) := rfl
  rw [e]
  refine fc_fn rfl ?_
  have c : Tv (xcmp ceq (xloc 0) (xlit (.int (.ofNat (nat_lit 0))))) ([N sd, N known, N count] ++ []) h (Nat.beq sd 0) := by (repeat' first | walk_at "kp_ev" | (first | lia | omega))
  cases q : Nat.beq sd 0 with
  | true => rw [q] at c; rw [bcase_t]; exact ru_seqr (ru_ifT c (ru_ret (Ev.ex (by (repeat' first | walk_at "kp_ev" | (first | lia | omega))))))
  | false => rw [q] at c; rw [bcase_f]; exact ru_seq (ru_ifF c ru_pass) (ru_ret (Ev.ex (by (repeat' first | walk_at "kp_ev" | (first | lia | omega)))))
end
-- part Sy8
-- Sy8: the law's successors (own work)
noncomputable def heldN (G : GM) (pw : Nat) : List Nat :=
  @Bool.rec (fun _ => List Nat)
    (@Bool.rec (fun _ => List Nat) [] [Nat.add (Nat.add pw G.fl) (nat_lit 1)] (Nat.ble (Nat.add (Nat.mod pw G.fl) (nat_lit 1)) (Nat.sub G.fl (nat_lit 1))))
    (Nat.sub (Nat.add pw G.fl) (nat_lit 1) :: @Bool.rec (fun _ => List Nat) [] [Nat.add (Nat.add pw G.fl) (nat_lit 1)] (Nat.ble (Nat.add (Nat.mod pw G.fl) (nat_lit 1)) (Nat.sub G.fl (nat_lit 1))))
    (Nat.ble (nat_lit 1) (Nat.mod pw G.fl))
noncomputable def held1 (G : GM) (pw : Nat) : List Nat := @Bool.rec (fun _ => List Nat) [] [pw + G.fl - 1] (Nat.ble (0 + 1) (pw % G.fl))
noncomputable def held2 (G : GM) (pw : Nat) : List Nat := @Bool.rec (fun _ => List Nat) [] [pw + G.fl + 1] (Nat.ble (pw % G.fl + 1) (G.fl - 1))
theorem heldN_eq (G : GM) (pw : Nat) : heldN G pw = held1 G pw ++ held2 G pw := by
  show @Bool.rec (fun _ => List Nat) (held2 G pw) ((pw + G.fl - 1) :: held2 G pw) (Nat.ble (0 + 1) (pw % G.fl)) = _
  unfold held1
  cases Nat.ble (0 + 1) (pw % G.fl) <;> rfl
-- the strong king's steps
noncomputable def wKing (G : GM) (pw wk : Nat) (xs : List Nat) : List Pl :=
  @List.rec Nat (fun _ => List Pl) [] (fun x _ ih => @Bool.rec (fun _ => List Pl) ih (⟨nat_lit 1, x, pw, wk⟩ :: ih) (bcase (bnt (Nat.beq x pw)) (bnt (memN x (nbN G wk))) false)) xs
theorem wKing_cons (G : GM) (pw wk x : Nat) (xs : List Nat) : wKing G pw wk (x :: xs) = bif bcase (bnt (Nat.beq x pw)) (bnt (memN x (nbN G wk))) false then ⟨1, x, pw, wk⟩ :: wKing G pw wk xs else wKing G pw wk xs := by
  show @Bool.rec (fun _ => List Pl) (wKing G pw wk xs) (⟨1, x, pw, wk⟩ :: wKing G pw wk xs) (bcase (bnt (Nat.beq x pw)) (bnt (memN x (nbN G wk))) false) = _
  cases bcase (bnt (Nat.beq x pw)) (bnt (memN x (nbN G wk))) false <;> rfl
-- the weak king's steps; does one take the pawn?
noncomputable def bOk (G : GM) (st pw x : Nat) : Bool := bcase (bnt (memN x (nbN G st))) (bnt (memN x (heldN G pw))) false
noncomputable def bTake (G : GM) (st pw : Nat) (xs : List Nat) : Bool :=
  @List.rec Nat (fun _ => Bool) false (fun x _ ih => bcase (bcase (Nat.beq x pw) (bOk G st pw x) false) true ih) xs
noncomputable def bKing (G : GM) (st pw : Nat) (xs : List Nat) : List Pl :=
  @List.rec Nat (fun _ => List Pl) [] (fun x _ ih => @Bool.rec (fun _ => List Pl) ih (⟨nat_lit 0, st, pw, x⟩ :: ih) (bOk G st pw x)) xs
theorem bTake_cons (G : GM) (st pw x : Nat) (xs : List Nat) : bTake G st pw (x :: xs) = bcase (bcase (Nat.beq x pw) (bOk G st pw x) false) true (bTake G st pw xs) := rfl
theorem bKing_cons (G : GM) (st pw x : Nat) (xs : List Nat) : bKing G st pw (x :: xs) = bif bOk G st pw x then ⟨0, st, pw, x⟩ :: bKing G st pw xs else bKing G st pw xs := by
  show @Bool.rec (fun _ => List Pl) (bKing G st pw xs) (⟨0, st, pw, x⟩ :: bKing G st pw xs) (bOk G st pw x) = _
  cases bOk G st pw x <;> rfl
noncomputable def pcase {α : Type} (b : Bool) (t f : α) : α := @Bool.rec (fun _ => α) f t b
theorem pcase_t {α : Type} (x y : α) : pcase true x y = x := rfl
theorem pcase_f {α : Type} (x y : α) : pcase false x y = y := rfl
noncomputable def isNilP (xs : List Pl) : Bool := @List.rec Pl (fun _ => Bool) true (fun _ _ _ => false) xs
-- sort and successors
noncomputable def aftW (G : GM) (db : Bool) (st pw wk : Nat) : Nat × List Pl :=
  pcase (memN wk (heldN G pw)) (nat_lit 0, [])
    (pcase (bcase (bnt (Nat.beq (Nat.add pw G.fl) st)) (bnt (Nat.beq (Nat.add pw G.fl) wk)) false)
      (pcase (Nat.beq (Nat.div pw G.fl) (Nat.sub G.rk (nat_lit 2)))
        (pcase (bcase (bnt (memN (Nat.add pw G.fl) (nbN G wk))) true (memN (Nat.add pw G.fl) (nbN G st))) (nat_lit 1, []) (nat_lit 3, wKing G pw wk (nbN G st)))
        (nat_lit 3, ⟨nat_lit 1, st, Nat.add pw G.fl, wk⟩ ::
          pcase (bcase db (bcase (Nat.beq (Nat.div pw G.fl) (nat_lit 1)) (bcase (bnt (Nat.beq (Nat.add (Nat.add pw G.fl) G.fl) st)) (bnt (Nat.beq (Nat.add (Nat.add pw G.fl) G.fl) wk)) false) false) false)
            (⟨nat_lit 1, st, Nat.add (Nat.add pw G.fl) G.fl, wk⟩ :: wKing G pw wk (nbN G st))
            (wKing G pw wk (nbN G st))))
      (nat_lit 3, wKing G pw wk (nbN G st)))
noncomputable def aftB (G : GM) (st pw wk : Nat) : Nat × List Pl :=
  pcase (bTake G st pw (nbN G wk)) (nat_lit 2, []) (pcase (isNilP (bKing G st pw (nbN G wk))) (nat_lit 2, []) (nat_lit 3, bKing G st pw (nbN G wk)))
noncomputable def aftN (G : GM) (db : Bool) (sd st pw wk : Nat) : Nat × List Pl :=
  pcase (bcase (Nat.beq st wk) true (bcase (Nat.beq st pw) true (bcase (Nat.beq wk pw) true (memN wk (nbN G st))))) (nat_lit 0, [])
    (pcase (Nat.beq sd (nat_lit 0)) (aftW G db st pw wk) (aftB G st pw wk))
theorem aftW_eq (G : GM) (db : Bool) (st pw wk : Nat) : aftW G db st pw wk =
  pcase (memN wk (held1 G pw ++ held2 G pw)) (0, [])
    (pcase (bcase (bnt (Nat.beq (pw + G.fl) st)) (bnt (Nat.beq (pw + G.fl) wk)) false)
      (pcase (Nat.beq (pw / G.fl) (G.rk - 2))
        (pcase (bcase (bnt (memN (pw + G.fl) (nbN G wk))) true (memN (pw + G.fl) (nbN G st))) (1, []) (3, wKing G pw wk (nbN G st)))
        (3, ⟨1, st, pw + G.fl, wk⟩ ::
          pcase (bcase db (bcase (Nat.beq (pw / G.fl) 1) (bcase (bnt (Nat.beq (pw + G.fl + G.fl) st)) (bnt (Nat.beq (pw + G.fl + G.fl) wk)) false) false) false)
            (⟨1, st, pw + G.fl + G.fl, wk⟩ :: wKing G pw wk (nbN G st))
            (wKing G pw wk (nbN G st))))
      (3, wKing G pw wk (nbN G st))) := by rw [← heldN_eq]; rfl
theorem aftN_eq (G : GM) (db : Bool) (sd st pw wk : Nat) : aftN G db sd st pw wk =
  pcase (bcase (Nat.beq st wk) true (bcase (Nat.beq st pw) true (bcase (Nat.beq wk pw) true (memN wk (nbN G st))))) (0, [])
    (pcase (Nat.beq sd 0) (aftW G db st pw wk) (aftB G st pw wk)) := rfl
section
variable {l : Loc} {h : H} {a : XS} {c : XE} {n : Nat} {xs : List V}
-- a loop that may return
theorem list_goR {t : Tgt} {I : Nat → Loc → H → Prop} {J : V → H → Prop} (hx : ∀ i l h, I i l h → h.t.get n = .list xs)
    (step : ∀ i l h, (hi : i < xs.length) → I i l h → (∃ l1 l' h', Tset t xs[i] l l1 ∧ Ru a l1 h (.nx l' h') ∧ I (i + 1) l' h') ∨ ∃ l1 v h', Tset t xs[i] l l1 ∧ Ru a l1 h (.rt v h') ∧ J v h') :
    ∀ (d i : Nat) (l : Loc) (h : H), i + d = xs.length → I i l h → (∃ l' h', I xs.length l' h' ∧ ∀ kn kr, forList t a kn kr n (d + 1) i l h = kn l' h') ∨ ∃ v h', J v h' ∧ ∀ kn kr, forList t a kn kr n (d + 1) i l h = kr v h'
  | 0, i, l, h, hd, hi => .inl ⟨l, h, (by (first | lia | omega) : i = xs.length) ▸ hi, fun kn kr => by
    rw [fl_succ, show getT h n = .list xs from hx _ _ _ hi]
    show @List.rec V (fun _ => Bool) (kn l h) _ (dropV xs i) = _
    rw [dropV_eq, List.drop_eq_nil_of_le (by (first | lia | omega))]⟩
  | d + 1, i, l, h, hd, hi => by
    rcases step i l h (by (first | lia | omega)) hi with ⟨l1, l', h', ht, hr, hi'⟩ | ⟨l1, v, h', ht, hr, hj⟩
    · rcases list_goR hx step d (i + 1) l' h' (by (first | lia | omega)) hi' with ⟨l2, h2, hz, e⟩ | ⟨v, h2, hz, e⟩
      · refine .inl ⟨l2, h2, hz, fun kn kr => ?_⟩
        rw [fl_succ, show getT h n = .list xs from hx _ _ _ hi]
        show @List.rec V (fun _ => Bool) (kn l h) _ (dropV xs i) = _
        rw [dropV_eq, List.drop_eq_getElem_cons (by (first | lia | omega) : i < xs.length)]
        show t xs[i] l _ = _
        rw [ht, hr]
        exact e kn kr
      · refine .inr ⟨v, h2, hz, fun kn kr => ?_⟩
        rw [fl_succ, show getT h n = .list xs from hx _ _ _ hi]
        show @List.rec V (fun _ => Bool) (kn l h) _ (dropV xs i) = _
        rw [dropV_eq, List.drop_eq_getElem_cons (by (first | lia | omega) : i < xs.length)]
        show t xs[i] l _ = _
        rw [ht, hr]
        exact e kn kr
    · refine .inr ⟨v, h', hj, fun kn kr => ?_⟩
      rw [fl_succ, show getT h n = .list xs from hx _ _ _ hi]
      show @List.rec V (fun _ => Bool) (kn l h) _ (dropV xs i) = _
      rw [dropV_eq, List.drop_eq_getElem_cons (by (first | lia | omega) : i < xs.length)]
      show t xs[i] l _ = _
      rw [ht, hr]; rfl
theorem ru_listR {t : Tgt} {I : Nat → Loc → H → Prop} {J : V → H → Prop} (hc : Ev c l h (.ref n)) (hx : ∀ i l h, I i l h → h.t.get n = .list xs) (h0 : I 0 l h)
    (step : ∀ i l h, (hi : i < xs.length) → I i l h → (∃ l1 l' h', Tset t xs[i] l l1 ∧ Ru a l1 h (.nx l' h') ∧ I (i + 1) l' h') ∨ ∃ l1 v h', Tset t xs[i] l l1 ∧ Ru a l1 h (.rt v h') ∧ J v h') :
    (∃ l' h', I xs.length l' h' ∧ Ru (sfor t c a) l h (.nx l' h')) ∨ ∃ v h', J v h' ∧ Ru (sfor t c a) l h (.rt v h') := by
  have pre : ∀ kn kr kb kc, sfor t c a l h kn kr kb kc = forList t a kn kr n (xs.length + 1) 0 l h := fun kn kr kb kc => by
    show c l h _ = _
    rw [hc]
    show objCase (getT h n) _ _ _ = _
    rw [show getT h n = .list xs from hx _ _ _ h0]
    show forList t a kn kr n (Nat.succ (lenV xs)) 0 l h = _
    rw [lenV_eq]
  rcases list_goR (a := a) hx step xs.length 0 l h (by (first | lia | omega)) h0 with ⟨l', h', hi, e⟩ | ⟨v, h', hj, e⟩
  · exact .inl ⟨l', h', hi, fun kn kr kb kc => (pre kn kr kb kc).trans (e kn kr)⟩
  · exact .inr ⟨v, h', hj, fun kn kr kb kc => (pre kn kr kb kc).trans (e kn kr)⟩
theorem ex_tup {r : XL} {vs : List V} {h1 : H} (hr : Exs r l h vs h1) (hl : vs.length ≤ 1000000) : Ex (xtup r) l h (.tup vs) h1 := fun k => by
  show r l h _ = _
  rw [hr]
  show bcase (Nat.ble (lenV vs) 1000000) _ false = _
  rw [lenV_eq, Nat.ble_eq_true_of_le hl]; rfl
theorem ev_isNil {e : XE} {ps : List Pl} (he : Ev e l h (.ref n)) (hn : h.t.get n = .list (ps.map tupP)) : Ev (xisNil e) l h (.bool (isNilP ps)) := fun k => by
  show e l h _ = _
  rw [he]
  show asList (.ref n) h _ = _
  rw [asList_eq hn]
  cases ps <;> rfl
end
section
variable {G : GM} {b : Nat} {h : H} {l : Loc} {nr : Nat} {ρ : Nat → Nat} {db : Bool} {sd st pw wk : Nat}
-- what a call gives: a sort, and a new list
noncomputable def AftO (h : H) (r : Nat × List Pl) (v : V) (h' : H) : Prop := ∃ o, v = .tup [N r.1, .ref o] ∧ Kp h.n h h' ∧ h.n ≤ o ∧ o < h'.n ∧ h'.t.get o = .list (r.2.map tupP)
theorem ru_ret0 {h0 : H} {q : Nat} (k : Kp h0.n h0 h) : ∃ v h', Ru (sret (xtup (econs (xlit (.int (.ofNat q))) (econs (xlist enil) enil)))) l h (.rt v h') ∧ AftO h0 (q, []) v h' :=
  ⟨_, _, ru_ret (ex_tup (exs_cons (Ev.ex ev_lit) (exs_cons ex_nil exs_nil)) (by simp)), h.n, rfl, k.trans (Kp.new h.n h _) (.inr k.1), k.1, Nat.lt_succ_self _, by show SO.view _ = _; rw [new_getS, if_pos rfl]; rfl⟩
-- the state of the walk
structure AfI (h0 : H) (nr hd o : Nat) (held : List Nat) (out : List Pl) (h : H) : Prop where
  k : Kp h0.n h0 h
  q1 : h0.n ≤ hd
  q2 : hd < o
  q3 : o < h.n
  hl : h.t.get hd = .list (nats held)
  ol : h.t.get o = .list (out.map tupP)
  c : out.length ≤ 100
theorem ru_out {h0 : H} {hd o : Nat} {held : List Nat} {out : List Pl} {e1 e2 e3 e4 : XE} {p : Pl} (i : AfI h0 nr hd o held out h) (hr : h0.r ≤ h0.n) (ho : getV l 11 = .ref o) (hc : out.length < 100)
    (c1 : Ev e1 l h (N p.sd)) (c2 : Ev e2 l h (N p.st)) (c3 : Ev e3 l h (N p.pw)) (c4 : Ev e4 l h (N p.wk)) :
    ∃ h', Ru (sexpr (xappend (xloc (nat_lit 11)) (xtup (econs e1 (econs e2 (econs e3 (econs e4 enil))))))) l h (.nx l h') ∧ AfI h0 nr hd o held (out ++ [p]) h' := by
  have q1 := i.q1
  have q2 := i.q2
  refine ⟨_, ru_append (ev_ref ho) (v := tupP p) (ev_tup (evs_cons c1 (evs_cons c2 (evs_cons c3 (evs_cons c4 evs_nil)))) (by simp)) i.ol (by simp; (first | lia | omega)) (by rw [i.k.2.1]; (first | lia | omega)), i.k.trans (Kp.set o h _) (.inr (by (first | lia | omega))), q1, q2, i.q3, ?_, ?_, by simp; (first | lia | omega)⟩
  · show SO.view _ = _
    rw [set_getS, if_neg (by (first | lia | omega))]; exact i.hl
  · show SO.view _ = _
    rw [set_getS, if_pos rfl, List.map_append]; rfl
abbrev LA (G : GM) (db : Bool) (nr sd st pw wk hd o : Nat) (x12 x13 : V) : Loc := [N G.fl, N G.rk, .bool db, .ref nr, N sd, N st, N pw, N wk, N (pw % G.fl), N (pw / G.fl), .ref hd, .ref o, x12, x13]
theorem RowsF.ei {s : Nat} (R : RowsF G b h s ρ) (sh : Sh G) {a e1 e2 : XE} {i j : Nat} (ha : Ev a l h (N i)) (h1 : Ev e1 l h (.ref s)) (h2 : Ev e2 l h (N j)) (hl : j < G.sz) : Ev (xin a (xsub e1 e2)) l h (.bool (memN i (nbN G j))) :=
  ev_inL ha (R.at_ sh h1 h2 hl) (R.row j hl)
theorem ru_wLoop {h0 : H} {hd o : Nat} {held : List Nat} {pre : List Pl} {x12 x13 : V} (R : RowsF G h0.n h0 nr ρ) (s' : Ok G) (hnb : ∀ i, i < G.sz → (nbN G i).length ≤ 10) (hr : h0.r ≤ h0.n) (h1 : st < G.sz) (h3 : wk < G.sz) (hp : pre.length ≤ 10) (i : AfI h0 nr hd o held pre h) :
    ∃ h' x13', Ru (sfor (tvar (nat_lit 13)) (xsub (xloc (nat_lit 3)) (xloc (nat_lit 5)))
      (sif (xand (xcmp cne (xloc (nat_lit 13)) (xloc (nat_lit 6))) (xnotin (xloc (nat_lit 13)) (xsub (xloc (nat_lit 3)) (xloc (nat_lit 7)))))
        (sexpr (xappend (xloc (nat_lit 11)) (xtup (econs (xlit (.int (.ofNat (nat_lit 1)))) (econs (xloc (nat_lit 13)) (econs (xloc (nat_lit 6)) (econs (xloc (nat_lit 7)) enil)))))))
        spass)) (LA G db nr sd st pw wk hd o x12 x13) h (.nx (LA G db nr sd st pw wk hd o x12 x13') h') ∧ AfI h0 nr hd o held (pre ++ wKing G pw wk (nbN G st)) h' := by
  have lp := ru_list (t := tvar 13) (n := ρ st) (xs := nats (nbN G st)) (c := xsub (xloc 3) (xloc 5)) (h := h) (l := LA G db nr sd st pw wk hd o x12 x13)
    (a := (sif (xand (xcmp cne (xloc (nat_lit 13)) (xloc (nat_lit 6))) (xnotin (xloc (nat_lit 13)) (xsub (xloc (nat_lit 3)) (xloc (nat_lit 7)))))
        (sexpr (xappend (xloc (nat_lit 11)) (xtup (econs (xlit (.int (.ofNat (nat_lit 1)))) (econs (xloc (nat_lit 13)) (econs (xloc (nat_lit 6)) (econs (xloc (nat_lit 7)) enil)))))))
        spass))
    (I := fun j l h' => ∃ x13 done, l = LA G db nr sd st pw wk hd o x12 x13 ∧ AfI h0 nr hd o held (pre ++ done) h' ∧ done.length ≤ j ∧ done ++ wKing G pw wk ((nbN G st).drop j) = wKing G pw wk (nbN G st))
    ((R.kp i.k).at_ s'.toSh (ev_ref rfl) (nv_loc rfl) h1) (fun j l h' x => by
      obtain ⟨_, _, _, i', _⟩ := x
      exact (R.kp i'.k).row st h1) ⟨x13, [], rfl, by rw [List.append_nil]; exact i, Nat.le_refl _, rfl⟩ (fun j l h' hj x => by
      obtain ⟨x13, done, rfl, i', hd', e⟩ := x
      obtain ⟨hk, ek⟩ := nats_get hj
      rw [ek]
      have RR := R.kp i'.k
      have hn := hnb st h1
      have c : Tv (xand (xcmp cne (xloc (nat_lit 13)) (xloc (nat_lit 6))) (xnotin (xloc (nat_lit 13)) (xsub (xloc (nat_lit 3)) (xloc (nat_lit 7))))) (LA G db nr sd st pw wk hd o x12 (N (nbN G st)[j])) h' (bcase (bnt (Nat.beq (nbN G st)[j] pw)) (bnt (memN (nbN G st)[j] (nbN G wk))) false) := by
        (repeat' first | walk_at "kp_ev" | (first | lia | omega) | exact RR.ei s'.toSh (nv_loc rfl) (ev_ref rfl) (nv_loc rfl) h3)
      rw [List.drop_eq_getElem_cons hk, wKing_cons] at e
      cases q : bcase (bnt (Nat.beq (nbN G st)[j] pw)) (bnt (memN (nbN G st)[j] (nbN G wk))) false with
      | true =>
        rw [q] at c
        rw [q, cond_true] at e
        obtain ⟨h2, r, i2⟩ := ru_out (l := LA G db nr sd st pw wk hd o x12 (N (nbN G st)[j])) (p := ⟨1, (nbN G st)[j], pw, wk⟩) i' hr rfl (by simp; (first | lia | omega)) ev_k1 (nv_loc (i := 13) rfl) (nv_loc (i := 6) rfl) (nv_loc (i := 7) rfl)
        exact ⟨_, _, h2, ts_var rfl, ru_ifT c r, _, done ++ [⟨1, (nbN G st)[j], pw, wk⟩], rfl, by rw [← List.append_assoc]; exact i2, by simp; (first | lia | omega), by rw [List.append_assoc]; exact e⟩
      | false =>
        rw [q] at c
        rw [q, cond_false] at e
        exact ⟨_, _, h', ts_var rfl, ru_ifF c ru_pass, _, done, rfl, i', by (first | lia | omega), e⟩)
  obtain ⟨l', h', ⟨x13', done, rfl, i', -, e⟩, lp⟩ := lp
  rw [List.drop_eq_nil_of_le (by simp [nats])] at e
  have e : done ++ [] = wKing G pw wk (nbN G st) := e
  rw [List.append_nil] at e
  exact ⟨h', x13', lp, by rw [← e]; exact i'⟩
theorem ru_retO {h0 : H} {hd o q : Nat} {held : List Nat} {out : List Pl} (i : AfI h0 nr hd o held out h) (ho : getV l 11 = .ref o) :
    ∃ v h', Ru (sret (xtup (econs (xlit (.int (.ofNat q))) (econs (xloc (nat_lit 11)) enil)))) l h (.rt v h') ∧ AftO h0 (q, out) v h' :=
  ⟨_, _, ru_ret (Ev.ex (ev_tup (evs_cons ev_lit (evs_cons (ev_ref ho) evs_nil)) (by simp))), o, rfl, i.k, by have := i.q1; have := i.q2; (first | lia | omega), i.q3, i.ol⟩
end
-- part Sy9
-- Sy9: _law_after (own work)
structure Ok3 (G : GM) (fr : List (List Nat)) : Prop extends Ok2 G fr where
  nbl : ∀ i, i < G.sz → (nbN G i).length ≤ 10
  nr : ∀ i, i < G.sz → nearR G.fl G.sz i = nbN G i
section
variable {G : GM} {b : Nat} {h h0 : H} {l : Loc} {nr hd o : Nat} {ρ : Nat → Nat} {db : Bool} {sd st pw wk : Nat} {held : List Nat} {x12 x13 : V}
theorem wKing_len (G : GM) (pw wk : Nat) : ∀ xs : List Nat, (wKing G pw wk xs).length ≤ xs.length
  | [] => Nat.le_refl _
  | x :: xs => by
    have := wKing_len G pw wk xs
    rw [wKing_cons]
    cases bcase (bnt (Nat.beq x pw)) (bnt (memN x (nbN G wk))) false with
    | true => rw [cond_true]; simp; (first | lia | omega)
    | false => rw [cond_false]; simp; (first | lia | omega)
noncomputable abbrev wLoop : XS := (sfor (tvar (nat_lit 13)) (xsub (xloc (nat_lit 3)) (xloc (nat_lit 5)))
   (sif (xand (xcmp cne (xloc (nat_lit 13)) (xloc (nat_lit 6))) (xnotin (xloc (nat_lit 13)) (xsub (xloc (nat_lit 3)) (xloc (nat_lit 7)))))
    (sexpr (xappend (xloc (nat_lit 11)) (xtup (econs (xlit (.int (.ofNat (nat_lit 1)))) (econs (xloc (nat_lit 13)) (econs (xloc (nat_lit 6)) (econs (xloc (nat_lit 7)) enil)))))))
    spass))
noncomputable abbrev wRet : XS := (sret (xtup (econs (xlit (.int (.ofNat (nat_lit 3)))) (econs (xloc (nat_lit 11)) enil))))
theorem ru_wEnd {pre : List Pl} (R : RowsF G h0.n h0 nr ρ) (s' : Ok G) (hnb : ∀ i, i < G.sz → (nbN G i).length ≤ 10) (hr : h0.r ≤ h0.n) (h1 : st < G.sz) (h3 : wk < G.sz) (hp : pre.length ≤ 10) (i : AfI h0 nr hd o held pre h) :
    ∃ v h', Ru (sseq wLoop wRet) (LA G db nr sd st pw wk hd o x12 x13) h (.rt v h') ∧ AftO h0 (3, pre ++ wKing G pw wk (nbN G st)) v h' := by
  obtain ⟨h2, y13, r, i2⟩ := ru_wLoop (db := db) (sd := sd) (pw := pw) (x12 := x12) (x13 := x13) R s' hnb hr h1 h3 hp i
  obtain ⟨v, h', r2, a⟩ := ru_retO (q := 3) (l := LA G db nr sd st pw wk hd o x12 y13) i2 rfl
  exact ⟨v, h', ru_seq r r2, a⟩
noncomputable abbrev wPart : XS := (sseq (sif (xin (xloc (nat_lit 7)) (xloc (nat_lit 10)))
   (sret (xtup (econs (xlit (.int (.ofNat (nat_lit 0)))) (econs (xlist enil) enil))))
   spass)
  (sseq (sset (nat_lit 12) (xbin oadd (xloc (nat_lit 6)) (xloc (nat_lit 0))))
  (sseq (sif (xand (xcmp cne (xloc (nat_lit 12)) (xloc (nat_lit 5))) (xcmp cne (xloc (nat_lit 12)) (xloc (nat_lit 7))))
   (sif (xcmp ceq (xloc (nat_lit 9)) (xbin osub (xloc (nat_lit 1)) (xlit (.int (.ofNat (nat_lit 2))))))
    (sif (xor (xnotin (xloc (nat_lit 12)) (xsub (xloc (nat_lit 3)) (xloc (nat_lit 7)))) (xin (xloc (nat_lit 12)) (xsub (xloc (nat_lit 3)) (xloc (nat_lit 5)))))
     (sret (xtup (econs (xlit (.int (.ofNat (nat_lit 1)))) (econs (xlist enil) enil))))
     spass)
    (sseq (sexpr (xappend (xloc (nat_lit 11)) (xtup (econs (xlit (.int (.ofNat (nat_lit 1)))) (econs (xloc (nat_lit 5)) (econs (xloc (nat_lit 12)) (econs (xloc (nat_lit 7)) enil)))))))
    (sif (xand (xloc (nat_lit 2)) (xand (xcmp ceq (xloc (nat_lit 9)) (xlit (.int (.ofNat (nat_lit 1))))) (xand (xcmp cne (xbin oadd (xloc (nat_lit 12)) (xloc (nat_lit 0))) (xloc (nat_lit 5))) (xcmp cne (xbin oadd (xloc (nat_lit 12)) (xloc (nat_lit 0))) (xloc (nat_lit 7))))))
     (sexpr (xappend (xloc (nat_lit 11)) (xtup (econs (xlit (.int (.ofNat (nat_lit 1)))) (econs (xloc (nat_lit 5)) (econs (xbin oadd (xloc (nat_lit 12)) (xloc (nat_lit 0))) (econs (xloc (nat_lit 7)) enil)))))))
     spass)))
   spass)
  (sseq wLoop wRet))))
theorem ru_wPart (R : RowsF G h0.n h0 nr ρ) (s' : Ok G) (hnb : ∀ i, i < G.sz → (nbN G i).length ≤ 10) (hr : h0.r ≤ h0.n) (h1 : st < G.sz) (h3 : wk < G.sz) (i : AfI h0 nr hd o (held1 G pw ++ held2 G pw) [] h) :
    ∃ v h', Ru wPart (LA G db nr sd st pw wk hd o x12 x13) h (.rt v h') ∧ AftO h0 (aftW G db st pw wk) v h' := by
  have bd := s'.bd
  have RR := R.kp i.k
  rw [aftW_eq]
  have c1 : Tv (xin (xloc (nat_lit 7)) (xloc (nat_lit 10))) (LA G db nr sd st pw wk hd o x12 x13) h (memN wk (held1 G pw ++ held2 G pw)) := tv_bool (ev_inL (nv_loc rfl) (ev_ref rfl) i.hl)
  cases q1 : memN wk (held1 G pw ++ held2 G pw) with
  | true =>
    rw [q1] at c1
    obtain ⟨v, h', r, a⟩ := ru_ret0 (l := LA G db nr sd st pw wk hd o x12 x13) (q := 0) i.k
    exact ⟨v, h', ru_seqr (ru_ifT c1 r), a⟩
  | false =>
    rw [q1] at c1
    rw [pcase_f]
    have r2 : Ru (sset (nat_lit 12) (xbin oadd (xloc (nat_lit 6)) (xloc (nat_lit 0)))) (LA G db nr sd st pw wk hd o x12 x13) h (.nx (LA G db nr sd st pw wk hd o (N (pw + G.fl)) x13) h) := ru_set (Ev.ex (by (repeat' first | walk_at "kp_ev" | (first | lia | omega)))) rfl
    have c2 : Tv (xand (xcmp cne (xloc (nat_lit 12)) (xloc (nat_lit 5))) (xcmp cne (xloc (nat_lit 12)) (xloc (nat_lit 7)))) (LA G db nr sd st pw wk hd o (N (pw + G.fl)) x13) h (bcase (bnt (Nat.beq (pw + G.fl) st)) (bnt (Nat.beq (pw + G.fl) wk)) false) := by (repeat' first | walk_at "kp_ev" | (first | lia | omega))
    cases q2 : bcase (bnt (Nat.beq (pw + G.fl) st)) (bnt (Nat.beq (pw + G.fl) wk)) false with
    | false =>
      rw [q2] at c2
      rw [pcase_f]
      obtain ⟨v, h', r, a⟩ := ru_wEnd (db := db) (sd := sd) (pw := pw) (x12 := N (pw + G.fl)) (x13 := x13) R s' hnb hr h1 h3 (by simp) i
      exact ⟨v, h', ru_seq (ru_ifF c1 ru_pass) (ru_seq r2 (ru_seq (ru_ifF c2 ru_pass) r)), a⟩
    | true =>
      rw [q2] at c2
      rw [pcase_t]
      have c3 : Tv (xcmp ceq (xloc (nat_lit 9)) (xbin osub (xloc (nat_lit 1)) (xlit (.int (.ofNat (nat_lit 2)))))) (LA G db nr sd st pw wk hd o (N (pw + G.fl)) x13) h (Nat.beq (pw / G.fl) (G.rk - 2)) := by (repeat' first | walk_at "kp_ev" | (first | lia | omega))
      cases q3 : Nat.beq (pw / G.fl) (G.rk - 2) with
      | true =>
        rw [q3] at c3
        rw [pcase_t]
        have c4 : Tv (xor (xnotin (xloc (nat_lit 12)) (xsub (xloc (nat_lit 3)) (xloc (nat_lit 7)))) (xin (xloc (nat_lit 12)) (xsub (xloc (nat_lit 3)) (xloc (nat_lit 5))))) (LA G db nr sd st pw wk hd o (N (pw + G.fl)) x13) h (bcase (bnt (memN (pw + G.fl) (nbN G wk))) true (memN (pw + G.fl) (nbN G st))) := by
          (repeat' first | walk_at "kp_ev" | (first | lia | omega) | exact RR.ei s'.toSh (nv_loc rfl) (ev_ref rfl) (nv_loc rfl) h3 | exact RR.ei s'.toSh (nv_loc rfl) (ev_ref rfl) (nv_loc rfl) h1)
        cases q4 : bcase (bnt (memN (pw + G.fl) (nbN G wk))) true (memN (pw + G.fl) (nbN G st)) with
        | true =>
          rw [q4] at c4
          obtain ⟨v, h', r, a⟩ := ru_ret0 (l := LA G db nr sd st pw wk hd o (N (pw + G.fl)) x13) (q := 1) i.k
          exact ⟨v, h', ru_seq (ru_ifF c1 ru_pass) (ru_seq r2 (ru_seqr (ru_ifT c2 (ru_ifT c3 (ru_ifT c4 r))))), a⟩
        | false =>
          rw [q4] at c4
          obtain ⟨v, h', r, a⟩ := ru_wEnd (db := db) (sd := sd) (pw := pw) (x12 := N (pw + G.fl)) (x13 := x13) R s' hnb hr h1 h3 (by simp) i
          exact ⟨v, h', ru_seq (ru_ifF c1 ru_pass) (ru_seq r2 (ru_seq (ru_ifT c2 (ru_ifT c3 (ru_ifF c4 ru_pass))) r)), a⟩
      | false =>
        rw [q3] at c3
        rw [pcase_f]
        obtain ⟨h2, r4, i2⟩ := ru_out (l := LA G db nr sd st pw wk hd o (N (pw + G.fl)) x13) (p := ⟨1, st, pw + G.fl, wk⟩) i hr rfl (by simp) ev_k1 (nv_loc (i := 5) rfl) (nv_loc (i := 12) rfl) (nv_loc (i := 7) rfl)
        have c5 : Tv (xand (xloc (nat_lit 2)) (xand (xcmp ceq (xloc (nat_lit 9)) (xlit (.int (.ofNat (nat_lit 1))))) (xand (xcmp cne (xbin oadd (xloc (nat_lit 12)) (xloc (nat_lit 0))) (xloc (nat_lit 5))) (xcmp cne (xbin oadd (xloc (nat_lit 12)) (xloc (nat_lit 0))) (xloc (nat_lit 7)))))) (LA G db nr sd st pw wk hd o (N (pw + G.fl)) x13) h2
          (bcase db (bcase (Nat.beq (pw / G.fl) 1) (bcase (bnt (Nat.beq (pw + G.fl + G.fl) st)) (bnt (Nat.beq (pw + G.fl + G.fl) wk)) false) false) false) := by (repeat' first | walk_at "kp_ev" | (first | lia | omega))
        cases q5 : bcase db (bcase (Nat.beq (pw / G.fl) 1) (bcase (bnt (Nat.beq (pw + G.fl + G.fl) st)) (bnt (Nat.beq (pw + G.fl + G.fl) wk)) false) false) false with
        | true =>
          rw [q5] at c5
          obtain ⟨h3', r5, i3⟩ := ru_out (l := LA G db nr sd st pw wk hd o (N (pw + G.fl)) x13) (p := ⟨1, st, pw + G.fl + G.fl, wk⟩) (e3 := xbin oadd (xloc (nat_lit 12)) (xloc (nat_lit 0))) i2 hr rfl (by simp) ev_k1 (nv_loc (i := 5) rfl) (by (repeat' first | walk_at "kp_ev" | (first | lia | omega))) (nv_loc (i := 7) rfl)
          obtain ⟨v, h', r, a⟩ := ru_wEnd (db := db) (sd := sd) (pw := pw) (x12 := N (pw + G.fl)) (x13 := x13) R s' hnb hr h1 h3 (by simp) i3
          exact ⟨v, h', ru_seq (ru_ifF c1 ru_pass) (ru_seq r2 (ru_seq (ru_ifT c2 (ru_ifF c3 (ru_seq r4 (ru_ifT c5 r5)))) r)), a⟩
        | false =>
          rw [q5] at c5
          obtain ⟨v, h', r, a⟩ := ru_wEnd (db := db) (sd := sd) (pw := pw) (x12 := N (pw + G.fl)) (x13 := x13) R s' hnb hr h1 h3 (by simp) i2
          exact ⟨v, h', ru_seq (ru_ifF c1 ru_pass) (ru_seq r2 (ru_seq (ru_ifT c2 (ru_ifF c3 (ru_seq r4 (ru_ifF c5 ru_pass)))) r)), a⟩
-- black
noncomputable abbrev bLoopB : XS := (sif (xand (xnotin (xloc (nat_lit 13)) (xsub (xloc (nat_lit 3)) (xloc (nat_lit 5)))) (xnotin (xloc (nat_lit 13)) (xloc (nat_lit 10))))
   (sseq (sif (xcmp ceq (xloc (nat_lit 13)) (xloc (nat_lit 6)))
    (sret (xtup (econs (xlit (.int (.ofNat (nat_lit 2)))) (econs (xlist enil) enil))))
    spass)
   (sexpr (xappend (xloc (nat_lit 11)) (xtup (econs (xlit (.int (.ofNat (nat_lit 0)))) (econs (xloc (nat_lit 5)) (econs (xloc (nat_lit 6)) (econs (xloc (nat_lit 13)) enil))))))))
   spass)
noncomputable abbrev bPart : XS := (sseq (sfor (tvar (nat_lit 13)) (xsub (xloc (nat_lit 3)) (xloc (nat_lit 7))) bLoopB)
 (sseq (sif (xisNil (xloc (nat_lit 11)))
  (sret (xtup (econs (xlit (.int (.ofNat (nat_lit 2)))) (econs (xlist enil) enil))))
  spass)
 (sret (xtup (econs (xlit (.int (.ofNat (nat_lit 3)))) (econs (xloc (nat_lit 11)) enil))))))
theorem ru_bPart (R : RowsF G h0.n h0 nr ρ) (s' : Ok G) (hnb : ∀ i, i < G.sz → (nbN G i).length ≤ 10) (hr : h0.r ≤ h0.n) (h1 : st < G.sz) (h3 : wk < G.sz) (i : AfI h0 nr hd o (held1 G pw ++ held2 G pw) [] h) :
    ∃ v h', Ru bPart (LA G db nr sd st pw wk hd o x12 x13) h (.rt v h') ∧ AftO h0 (aftB G st pw wk) v h' := by
  unfold aftB
  have lp := ru_listR (t := tvar 13) (n := ρ wk) (xs := nats (nbN G wk)) (c := xsub (xloc 3) (xloc 7)) (h := h) (l := LA G db nr sd st pw wk hd o x12 x13) (a := bLoopB)
    (I := fun j l h' => ∃ x13 done, l = LA G db nr sd st pw wk hd o x12 x13 ∧ AfI h0 nr hd o (held1 G pw ++ held2 G pw) done h' ∧ done.length ≤ j ∧ done ++ bKing G st pw ((nbN G wk).drop j) = bKing G st pw (nbN G wk) ∧ bTake G st pw ((nbN G wk).drop j) = bTake G st pw (nbN G wk))
    (J := fun v h' => bTake G st pw (nbN G wk) = true ∧ AftO h0 (2, []) v h')
    ((R.kp i.k).at_ s'.toSh (ev_ref rfl) (nv_loc rfl) h3) (fun j l h' x => by
      obtain ⟨_, _, _, i', _⟩ := x
      exact (R.kp i'.k).row wk h3) ⟨x13, [], rfl, i, Nat.le_refl _, rfl, rfl⟩ (fun j l h' hj x => by
      obtain ⟨x13, done, rfl, i', hd', e, et⟩ := x
      obtain ⟨hk, ek⟩ := nats_get hj
      rw [ek]
      have RR := R.kp i'.k
      have hn := hnb wk h3
      have c : Tv (xand (xnotin (xloc (nat_lit 13)) (xsub (xloc (nat_lit 3)) (xloc (nat_lit 5)))) (xnotin (xloc (nat_lit 13)) (xloc (nat_lit 10)))) (LA G db nr sd st pw wk hd o x12 (N (nbN G wk)[j])) h' (bOk G st pw (nbN G wk)[j]) := by
        unfold bOk
        rw [heldN_eq]
        (repeat' first | walk_at "kp_ev" | (first | lia | omega) | exact RR.ei s'.toSh (nv_loc rfl) (ev_ref rfl) (nv_loc rfl) h1 | exact ev_inL (nv_loc rfl) (ev_ref rfl) i'.hl)
      rw [List.drop_eq_getElem_cons hk, bKing_cons] at e
      rw [List.drop_eq_getElem_cons hk, bTake_cons] at et
      cases q : bOk G st pw (nbN G wk)[j] with
      | true =>
        rw [q] at c et
        rw [q, cond_true] at e
        have c2 : Tv (xcmp ceq (xloc (nat_lit 13)) (xloc (nat_lit 6))) (LA G db nr sd st pw wk hd o x12 (N (nbN G wk)[j])) h' (Nat.beq (nbN G wk)[j] pw) := by (repeat' first | walk_at "kp_ev" | (first | lia | omega))
        cases q2 : Nat.beq (nbN G wk)[j] pw with
        | true =>
          rw [q2] at c2 et
          obtain ⟨v, h2, r, a⟩ := ru_ret0 (l := LA G db nr sd st pw wk hd o x12 (N (nbN G wk)[j])) (q := 2) i'.k
          exact .inr ⟨_, v, h2, ts_var rfl, ru_ifT c (ru_seqr (ru_ifT c2 r)), et.symm, a⟩
        | false =>
          rw [q2] at c2 et
          obtain ⟨h2, r, i2⟩ := ru_out (l := LA G db nr sd st pw wk hd o x12 (N (nbN G wk)[j])) (p := ⟨0, st, pw, (nbN G wk)[j]⟩) i' hr rfl (by (first | lia | omega)) ev_k0 (nv_loc (i := 5) rfl) (nv_loc (i := 6) rfl) (nv_loc (i := 13) rfl)
          exact .inl ⟨_, _, h2, ts_var rfl, ru_ifT c (ru_seq (ru_ifF c2 ru_pass) r), _, done ++ [⟨0, st, pw, (nbN G wk)[j]⟩], rfl, i2, by simp; (first | lia | omega), by rw [List.append_assoc]; exact e, et⟩
      | false =>
        rw [q] at c et
        rw [q, cond_false] at e
        refine .inl ⟨_, _, h', ts_var rfl, ru_ifF c ru_pass, _, done, rfl, i', by (first | lia | omega), e, ?_⟩
        rw [← et]
        cases Nat.beq (nbN G wk)[j] pw <;> rfl)
  rcases lp with ⟨l', h', ⟨y13, done, rfl, i', -, e, et⟩, lp⟩ | ⟨v, h', ⟨et, a⟩, lp⟩
  · rw [List.drop_eq_nil_of_le (by simp [nats])] at e et
    have e : done ++ [] = bKing G st pw (nbN G wk) := e
    rw [List.append_nil] at e
    rw [← et]
    show ∃ v h', Ru bPart (LA G db nr sd st pw wk hd o x12 x13) h (.rt v h') ∧ AftO h0 (pcase (isNilP (bKing G st pw (nbN G wk))) (2, []) (3, bKing G st pw (nbN G wk))) v h'
    rw [← e]
    have c : Tv (xisNil (xloc (nat_lit 11))) (LA G db nr sd st pw wk hd o x12 y13) h' (isNilP done) := tv_bool (ev_isNil (ev_ref rfl) i'.ol)
    cases q : isNilP done with
    | true =>
      rw [q] at c
      obtain ⟨v, h2, r, a⟩ := ru_ret0 (l := LA G db nr sd st pw wk hd o x12 y13) (q := 2) i'.k
      exact ⟨v, h2, ru_seq lp (ru_seqr (ru_ifT c r)), a⟩
    | false =>
      rw [q] at c
      obtain ⟨v, h2, r, a⟩ := ru_retO (l := LA G db nr sd st pw wk hd o x12 y13) (q := 3) i' rfl
      exact ⟨v, h2, ru_seq lp (ru_seq (ru_ifF c ru_pass) r), a⟩
  · rw [et]
    exact ⟨v, h', ru_seqr lp, a⟩
set_option maxHeartbeats 1000000 in
theorem fc_after {fr : List (List Nat)} (R : RowsF G h.n h nr ρ) (s' : Ok3 G fr) (hr : h.r ≤ h.n) (h1 : st < G.sz) (h2 : G.fl ≤ pw) (h3 : wk < G.sz) :
    ∃ v h', Fc f__law_after [N G.fl, N G.rk, .bool db, .ref nr, N sd, N st, N pw, N wk] h v h' ∧ AftO h (aftN G db sd st pw wk) v h' := by
  have bd := s'.bd
  rw [aftN_eq]
  have c0 : Tv (xor (xcmp ceq (xloc (nat_lit 5)) (xloc (nat_lit 7))) (xor (xcmp ceq (xloc (nat_lit 5)) (xloc (nat_lit 6))) (xor (xcmp ceq (xloc (nat_lit 7)) (xloc (nat_lit 6))) (xin (xloc (nat_lit 7)) (xsub (xloc (nat_lit 3)) (xloc (nat_lit 5)))))))
    [N G.fl, N G.rk, .bool db, .ref nr, N sd, N st, N pw, N wk, .unb, .unb, .unb, .unb, .unb, .unb] h (bcase (Nat.beq st wk) true (bcase (Nat.beq st pw) true (bcase (Nat.beq wk pw) true (memN wk (nbN G st))))) := by
    (repeat' first | walk_at "kp_ev" | (first | lia | omega) | exact R.ei s'.toSh (nv_loc rfl) (ev_ref rfl) (nv_loc rfl) h1)
  cases q0 : bcase (Nat.beq st wk) true (bcase (Nat.beq st pw) true (bcase (Nat.beq wk pw) true (memN wk (nbN G st)))) with
  | true =>
    rw [q0] at c0
    obtain ⟨v, h', r, a⟩ := ru_ret0 (l := [N G.fl, N G.rk, .bool db, .ref nr, N sd, N st, N pw, N wk, .unb, .unb, .unb, .unb, .unb, .unb]) (q := 0) (Kp.refl h.n h)
    exact ⟨v, h', fc_fn rfl (ru_seqr (ru_ifT c0 r)), a⟩
  | false =>
    rw [q0] at c0
    rw [pcase_f]
    have r3 : Ru (sset (nat_lit 10) (xlist enil)) [N G.fl, N G.rk, .bool db, .ref nr, N sd, N st, N pw, N wk, N (pw % G.fl), N (pw / G.fl), .unb, .unb, .unb, .unb] h
      (.nx [N G.fl, N G.rk, .bool db, .ref nr, N sd, N st, N pw, N wk, N (pw % G.fl), N (pw / G.fl), .ref h.n, .unb, .unb, .unb] (h.new (.list []))) := ru_set ex_nil rfl
    have k1 : Kp h.n h (h.new (.list [])) := Kp.new _ _ _
    have g1 : (h.new (.list [])).t.get h.n = .list (nats []) := by show SO.view _ = _; rw [new_getS, if_pos rfl]; rfl
    obtain ⟨h4, r4, k4, g4, n4⟩ : ∃ h4, Ru (sif (xcmp cgt (xloc (nat_lit 8)) (xlit (.int (.ofNat (nat_lit 0)))))
        (sexpr (xappend (xloc (nat_lit 10)) (xbin osub (xbin oadd (xloc (nat_lit 6)) (xloc (nat_lit 0))) (xlit (.int (.ofNat (nat_lit 1))))))) spass)
        [N G.fl, N G.rk, .bool db, .ref nr, N sd, N st, N pw, N wk, N (pw % G.fl), N (pw / G.fl), .ref h.n, .unb, .unb, .unb] (h.new (.list []))
        (.nx [N G.fl, N G.rk, .bool db, .ref nr, N sd, N st, N pw, N wk, N (pw % G.fl), N (pw / G.fl), .ref h.n, .unb, .unb, .unb] h4) ∧ Kp h.n h h4 ∧ h4.t.get h.n = .list (nats (held1 G pw)) ∧ h.n < h4.n := by
      have c : Tv (xcmp cgt (xloc (nat_lit 8)) (xlit (.int (.ofNat (nat_lit 0))))) [N G.fl, N G.rk, .bool db, .ref nr, N sd, N st, N pw, N wk, N (pw % G.fl), N (pw / G.fl), .ref h.n, .unb, .unb, .unb] (h.new (.list [])) (Nat.ble (0 + 1) (pw % G.fl)) := by (repeat' first | walk_at "kp_ev" | (first | lia | omega))
      unfold held1
      cases q : Nat.ble (0 + 1) (pw % G.fl) with
      | true =>
        rw [q] at c
        exact ⟨_, ru_ifT c (ru_append (ev_ref rfl) (v := N (pw + G.fl - 1)) (by (repeat' first | walk_at "kp_ev" | (first | lia | omega))) g1 (by simp [nats]) hr), k1.trans (Kp.set h.n _ _) (.inl rfl), by show SO.view _ = _; rw [set_getS, if_pos rfl]; rfl, Nat.lt_succ_self _⟩
      | false =>
        rw [q] at c
        exact ⟨_, ru_ifF c ru_pass, k1, g1, Nat.lt_succ_self _⟩
    obtain ⟨h5, r5, k5, g5, n5⟩ : ∃ h5, Ru (sif (xcmp clt (xloc (nat_lit 8)) (xbin osub (xloc (nat_lit 0)) (xlit (.int (.ofNat (nat_lit 1))))))
        (sexpr (xappend (xloc (nat_lit 10)) (xbin oadd (xbin oadd (xloc (nat_lit 6)) (xloc (nat_lit 0))) (xlit (.int (.ofNat (nat_lit 1))))))) spass)
        [N G.fl, N G.rk, .bool db, .ref nr, N sd, N st, N pw, N wk, N (pw % G.fl), N (pw / G.fl), .ref h.n, .unb, .unb, .unb] h4
        (.nx [N G.fl, N G.rk, .bool db, .ref nr, N sd, N st, N pw, N wk, N (pw % G.fl), N (pw / G.fl), .ref h.n, .unb, .unb, .unb] h5) ∧ Kp h.n h h5 ∧ h5.t.get h.n = .list (nats (held1 G pw ++ held2 G pw)) ∧ h.n < h5.n := by
      have c : Tv (xcmp clt (xloc (nat_lit 8)) (xbin osub (xloc (nat_lit 0)) (xlit (.int (.ofNat (nat_lit 1)))))) [N G.fl, N G.rk, .bool db, .ref nr, N sd, N st, N pw, N wk, N (pw % G.fl), N (pw / G.fl), .ref h.n, .unb, .unb, .unb] h4 (Nat.ble (pw % G.fl + 1) (G.fl - 1)) := by (repeat' first | walk_at "kp_ev" | (first | lia | omega))
      unfold held2
      cases q : Nat.ble (pw % G.fl + 1) (G.fl - 1) with
      | true =>
        rw [q] at c
        have hl1 : (held1 G pw).length ≤ 1 := by unfold held1; cases Nat.ble (0 + 1) (pw % G.fl) <;> simp
        exact ⟨_, ru_ifT c (ru_append (ev_ref rfl) (v := N (pw + G.fl + 1)) (by (repeat' first | walk_at "kp_ev" | (first | lia | omega))) g4 (by simp [nats]; (first | lia | omega)) (by rw [k4.2.1]; exact hr)), k4.trans (Kp.set h.n _ _) (.inl rfl), by show SO.view _ = _; rw [set_getS, if_pos rfl]; simp [nats]; rfl, n4⟩
      | false =>
        rw [q] at c
        exact ⟨_, ru_ifF c ru_pass, k4, by simpa using g4, n4⟩
    have r6 : Ru (sset (nat_lit 11) (xlist enil)) [N G.fl, N G.rk, .bool db, .ref nr, N sd, N st, N pw, N wk, N (pw % G.fl), N (pw / G.fl), .ref h.n, .unb, .unb, .unb] h5 (.nx (LA G db nr sd st pw wk h.n h5.n .unb .unb) (h5.new (.list []))) := ru_set ex_nil rfl
    have i6 : AfI h nr h.n h5.n (held1 G pw ++ held2 G pw) [] (h5.new (.list [])) := ⟨k5.trans (Kp.new h.n _ _) (.inl rfl), Nat.le_refl _, n5, Nat.lt_succ_self _, (by show SO.view _ = _; rw [new_getS, if_neg (by (first | lia | omega))]; exact g5), (by show SO.view _ = _; rw [new_getS, if_pos rfl]; rfl), by simp⟩
    have c7 : Tv (xcmp ceq (xloc (nat_lit 4)) (xlit (.int (.ofNat (nat_lit 0))))) (LA G db nr sd st pw wk h.n h5.n .unb .unb) (h5.new (.list [])) (Nat.beq sd 0) := by (repeat' first | walk_at "kp_ev" | (first | lia | omega))
    have pre : ∀ p, Ru (sseq (sif (xcmp ceq (xloc (nat_lit 4)) (xlit (.int (.ofNat (nat_lit 0))))) wPart spass) bPart) (LA G db nr sd st pw wk h.n h5.n .unb .unb) (h5.new (.list [])) p → Ru b__law_after [N G.fl, N G.rk, .bool db, .ref nr, N sd, N st, N pw, N wk, .unb, .unb, .unb, .unb, .unb, .unb] h p := fun p r =>
      ru_seq (ru_ifF c0 ru_pass) (ru_seq (ru_set (v := N (pw % G.fl)) (Ev.ex (by (repeat' first | walk_at "kp_ev" | (first | lia | omega)))) rfl) (ru_seq (ru_set (v := N (pw / G.fl)) (Ev.ex (by (repeat' first | walk_at "kp_ev" | (first | lia | omega)))) rfl) (ru_seq r3 (ru_seq r4 (ru_seq r5 (ru_seq r6 r))))))
    cases q7 : Nat.beq sd 0 with
    | true =>
      rw [q7] at c7
      obtain ⟨v, h', r, a⟩ := ru_wPart (db := db) (sd := sd) (x12 := .unb) (x13 := .unb) R s'.toOk s'.nbl hr h1 h3 i6
      exact ⟨v, h', fc_fn rfl (pre _ (ru_seqr (ru_ifT c7 r))), a⟩
    | false =>
      rw [q7] at c7
      obtain ⟨v, h', r, a⟩ := ru_bPart (db := db) (sd := sd) (x12 := .unb) (x13 := .unb) R s'.toOk s'.nbl hr h1 h3 i6
      exact ⟨v, h', fc_fn rfl (pre _ (ru_seq (ru_ifF c7 ru_pass) r)), a⟩
end
-- part Sy10
-- Sy10: dicts keyed by placings (own work)
noncomputable def plEq (p q : Pl) : Bool := bcase (Nat.beq p.sd q.sd) (bcase (Nat.beq p.st q.st) (bcase (Nat.beq p.pw q.pw) (bcase (Nat.beq p.wk q.wk) true false) false) false) false
theorem plEq_iff {p q : Pl} : plEq p q = true ↔ p = q := by
  unfold plEq
  constructor
  · intro h
    obtain ⟨h1, h⟩ := bc_of h
    obtain ⟨h2, h⟩ := bc_of h
    obtain ⟨h3, h⟩ := bc_of h
    obtain ⟨h4, -⟩ := bc_of h
    cases p; cases q
    simp only [Pl.mk.injEq]
    exact ⟨Nat.eq_of_beq_eq_true h1, Nat.eq_of_beq_eq_true h2, Nat.eq_of_beq_eq_true h3, Nat.eq_of_beq_eq_true h4⟩
  · rintro rfl
    rw [Nat.beq_refl, Nat.beq_refl, Nat.beq_refl, Nat.beq_refl]; rfl
abbrev Es := List (Pl × V)
noncomputable def dk (es : Es) : List (V × V) := es.map fun q => (tupP q.1, q.2)
noncomputable def hasP (p : Pl) : Es → Bool
  | [] => false
  | q :: r => bif plEq q.1 p then true else hasP p r
noncomputable def getP (p : Pl) : Es → Option V
  | [] => none
  | q :: r => bif plEq q.1 p then some q.2 else getP p r
noncomputable def updP (p : Pl) (v : V) : Es → Es
  | [] => [(p, v)]
  | q :: r => bif plEq q.1 p then (q.1, v) :: r else q :: updP p v r
noncomputable def keyL (p : Pl) : List V := [N p.sd, N p.st, N p.pw, N p.wk]
theorem dfind_cons (p : Pl) (q : Pl × V) (es : Es) (no : Bool) (n : Nat) (k : Nat → V → Bool) : dfind (keyL p) (dk (q :: es)) no n k = bcase (plEq q.1 p) (k n q.2) (dfind (keyL p) (dk es) no (n + 1) k) := rfl
theorem dfind_none {p : Pl} : ∀ (es : Es) (n : Nat) (no : Bool) (k : Nat → V → Bool), hasP p es = false → dfind (keyL p) (dk es) no n k = no
  | [], n, no, k, _ => rfl
  | q :: es, n, no, k, h => by
    rw [dfind_cons]
    unfold hasP at h
    cases e : plEq q.1 p with
    | true => rw [e, cond_true] at h; cases h
    | false => rw [e, cond_false] at h; exact dfind_none es (n + 1) no k h
theorem dfind_some {p : Pl} : ∀ (es : Es) (n : Nat) (no : Bool) (k : Nat → V → Bool), hasP p es = true → ∃ j v, getP p es = some v ∧ dfind (keyL p) (dk es) no n k = k (n + j) v ∧ ∀ (w : V) (kk : List (V × V) → Bool), dsetK w (dk es) j kk = kk (dk (updP p w es))
  | [], n, no, k, h => by cases h
  | q :: es, n, no, k, h => by
    unfold hasP at h
    cases e : plEq q.1 p with
    | true =>
      refine ⟨0, q.2, by unfold getP; rw [e, cond_true], by rw [dfind_cons, e]; rfl, fun w kk => ?_⟩
      unfold updP
      rw [e, cond_true]; rfl
    | false =>
      rw [e, cond_false] at h
      obtain ⟨j, v, h1, h2, h3⟩ := dfind_some es (n + 1) no k h
      refine ⟨j + 1, v, by unfold getP; rw [e, cond_false]; exact h1, by rw [dfind_cons, e, bcase_f, h2]; congr 1; (first | lia | omega), fun w kk => ?_⟩
      have : dsetK w (dk (q :: es)) (j + 1) kk = dsetK w (dk es) j fun ys => kk ((tupP q.1, q.2) :: ys) := rfl
      rw [this, h3]
      conv => rhs; unfold updP
      rw [e, cond_false]; rfl
theorem upd_none {p : Pl} {v : V} : ∀ (es : Es), hasP p es = false → updP p v es = es ++ [(p, v)]
  | [], _ => rfl
  | q :: es, h => by
    unfold hasP at h
    unfold updP
    cases e : plEq q.1 p with
    | true => rw [e, cond_true] at h; cases h
    | false => rw [e, cond_false] at h; rw [cond_false, upd_none es h]; rfl
theorem sy_dsnocK (p : V × V) : ∀ (kvs : List (V × V)) (k : List (V × V) → Bool), dsnocK p kvs k = k (kvs ++ [p])
  | [], k => rfl
  | x :: r, k => by
    have : dsnocK p (x :: r) k = dsnocK p r fun ys => k (x :: ys) := rfl
    rw [this, sy_dsnocK p r]; rfl
theorem sy_lenD_aux : ∀ (xs : List (V × V)) (n : Nat), @List.rec (V × V) (fun _ => Nat → Nat) (fun n => n) (fun _ _ ih n => ih (Nat.succ n)) xs n = n + xs.length
  | [], n => rfl
  | x :: xs, n => by
    show @List.rec (V × V) (fun _ => Nat → Nat) (fun n => n) (fun _ _ ih n => ih (Nat.succ n)) xs (Nat.succ n) = _
    rw [sy_lenD_aux xs (Nat.succ n), List.length_cons]; (first | lia | omega)
theorem sy_lenD (xs : List (V × V)) : lenD xs = xs.length := by
  have := sy_lenD_aux xs 0
  unfold lenD
  rw [this]; (first | lia | omega)
section
variable {l l1 : Loc} {h : H} {a b e o q : XE} {n ep : Nat} {es : Es} {p : Pl} {v : V}
theorem ev_inD (ha : Ev a l h (tupP p)) (hb : Ev b l h (.ref n)) (hn : h.t.get n = .dict ep (dk es)) : Ev (xin a b) l h (.bool (hasP p es)) := fun k => by
  show a l h _ = _
  rw [ha]
  show b l h _ = _
  rw [hb]
  show objCase (getT h n) _ _ _ = _
  rw [show getT h n = .dict ep (dk es) from hn]
  show dfind (keyL p) (dk es) (k (.bool false) h) 0 (fun _ _ => k (.bool true) h) = _
  cases c : hasP p es with
  | false => rw [dfind_none es 0 _ _ c]
  | true =>
    obtain ⟨j, v, -, h2, -⟩ := dfind_some es 0 (k (.bool false) h) (fun _ _ => k (.bool true) h) c
    rw [h2]
theorem has_get : ∀ {es : Es}, getP p es = some v → hasP p es = true
  | [], c => by cases c
  | q :: r, c => by
    unfold getP at c
    unfold hasP
    cases e : plEq q.1 p with
    | true => rfl
    | false => rw [e, cond_false] at c; rw [cond_false]; exact has_get c
theorem ev_subD (ho : Ev o l h (.ref n)) (hq : Ev q l h (tupP p)) (hn : h.t.get n = .dict ep (dk es)) (hg : getP p es = some v) : Ev (xsub o q) l h v := fun k => by
  show o l h _ = _
  rw [ho]
  show q l h _ = _
  rw [hq]
  refine (sub_so (getS h n) (tupP p) (fun v => k v h) (fun _ kvs => asKey (tupP p) fun q => dfind q kvs false 0 fun _ v => k v h) (fun _ => false)).trans ?_
  show objCase (getT h n) _ _ _ = _
  rw [show getT h n = .dict ep (dk es) from hn]
  show dfind (keyL p) (dk es) false 0 (fun _ v => k v h) = _
  obtain ⟨j, v', h1, h2, -⟩ := dfind_some es 0 false (fun _ v => k v h) (has_get hg)
  rw [h2]
  rw [hg] at h1
  cases h1; rfl
theorem ru_subD (he : Ev e l h v) (ho : Ev o l h (.ref n)) (hq : Ev q l h (tupP p)) (hn : h.t.get n = .dict ep (dk es)) (hl : es.length ≤ 1000000) (hr : h.r ≤ n) :
    ∃ ep', Ru (ssub o q e) l h (.nx l (h.set n (.dict ep' (dk (updP p v es))))) := by
  have hs : ∃ ob, getS h n = .ob ob ∧ ob = .dict ep (dk es) := by
    have : SO.view (getS h n) = .dict ep (dk es) := hn
    cases c : getS h n with
    | ob ob => rw [c] at this; exact ⟨ob, rfl, this⟩
    | pk z len => rw [c] at this; cases this
  obtain ⟨ob, hs, rfl⟩ := hs
  have pre : ∀ kn kr kb kc, ssub o q e l h kn kr kb kc = dfind (keyL p) (dk es) (bcase (Nat.ble (lenD (dk es)) 1000000) (dsnocK (tupP p, v) (dk es) fun kvs => store (.dict (Nat.succ ep) kvs) n h fun h => kn l h) false) 0 (fun j _ => dsetK v (dk es) j fun kvs => store (.dict ep kvs) n h fun h => kn l h) := fun kn kr kb kc => by
    show e l h _ = _
    rw [he]
    show o l h _ = _
    rw [ho]
    show q l h _ = _
    rw [hq]
    show soCase (getS h n) _ _ = _
    rw [hs]; rfl
  cases c : hasP p es with
  | false =>
    refine ⟨ep + 1, fun kn kr kb kc => ?_⟩
    rw [pre, dfind_none es 0 _ _ c, sy_lenD, Nat.ble_eq_true_of_le (by simpa [dk] using hl), bcase_t, sy_dsnocK, sy_store hr, upd_none es c]
    simp [dk]; rfl
  | true =>
    refine ⟨ep, fun kn kr kb kc => ?_⟩
    obtain ⟨j, v', -, h2, h3⟩ := dfind_some es 0 (bcase (Nat.ble (lenD (dk es)) 1000000) (dsnocK (tupP p, v) (dk es) fun kvs => store (.dict (Nat.succ ep) kvs) n h fun h => kn l h) false) (fun j _ => dsetK v (dk es) j fun kvs => store (.dict ep kvs) n h fun h => kn l h) c
    rw [pre, h2]
    show dsetK v (dk es) (0 + j) _ = _
    rw [Nat.zero_add, h3, sy_store hr]; rfl
-- a loop over a dict's keys
variable {c : XE} {s : XS}
theorem keyAt_eq : ∀ (es : Es) (i : Nat) (no : Bool) (k : V → Bool), (hi : i < es.length) → keyAt (dk es) no i k = k (tupP es[i].1)
  | [], _, _, _, h => by simp at h
  | q :: r, 0, _, _, _ => rfl
  | q :: r, i + 1, no, k, h => keyAt_eq r i no k (by simpa using h)
theorem keyAt_end : ∀ (es : Es) (no : Bool) (k : V → Bool), keyAt (dk es) no es.length k = no
  | [], _, _ => rfl
  | q :: r, no, k => keyAt_end r no k
theorem fd_succ {t : Tgt} {kn : KN} {kr : KR} (nn ep f i : Nat) (l : Loc) (h : H) : forDict t s kn kr nn ep (f + 1) i l h = objCase (getT h nn) (fun _ => false) (fun ep' kvs => bcase (Nat.beq ep ep') (bcase (Nat.beq (lenD kvs) (Nat.add f i)) (keyAt kvs (kn l h) i fun v => t v l fun l => s l h (forDict t s kn kr nn ep f (Nat.succ i)) kr kn (forDict t s kn kr nn ep f (Nat.succ i))) false) false) (fun _ => false) := rfl
theorem dict_go {t : Tgt} {I : Nat → Loc → H → Prop} (hx : ∀ i l h, I i l h → h.t.get n = .dict ep (dk es)) (step : ∀ i l h, (hi : i < es.length) → I i l h → ∃ l1 l' h', Tset t (tupP es[i].1) l l1 ∧ Ru s l1 h (.nx l' h') ∧ I (i + 1) l' h') :
    ∀ (d i : Nat) (l : Loc) (h : H), i + d = es.length → I i l h → ∃ l' h', I es.length l' h' ∧ ∀ kn kr, forDict t s kn kr n ep (d + 1) i l h = kn l' h'
  | 0, i, l, h, hd, hi => ⟨l, h, (by (first | lia | omega) : i = es.length) ▸ hi, fun kn kr => by
    rw [fd_succ, show getT h n = .dict ep (dk es) from hx _ _ _ hi]
    obtain rfl : i = es.length := by (first | lia | omega)
    show bcase (Nat.beq ep ep) (bcase (Nat.beq (lenD (dk es)) (0 + es.length)) (keyAt (dk es) (kn l h) es.length _) false) false = _
    rw [Nat.beq_refl, sy_lenD, show (dk es).length = es.length by simp [dk], Nat.zero_add, Nat.beq_refl, bcase_t, bcase_t, keyAt_end]⟩
  | d + 1, i, l, h, hd, hi => by
    obtain ⟨l1, l', h', ht, hr, hi'⟩ := step i l h (by (first | lia | omega)) hi
    obtain ⟨l2, h2, hz, e⟩ := dict_go hx step d (i + 1) l' h' (by (first | lia | omega)) hi'
    refine ⟨l2, h2, hz, fun kn kr => ?_⟩
    rw [fd_succ, show getT h n = .dict ep (dk es) from hx _ _ _ hi]
    show bcase (Nat.beq ep ep) (bcase (Nat.beq (lenD (dk es)) (d + 1 + i)) (keyAt (dk es) (kn l h) i _) false) false = _
    rw [Nat.beq_refl, sy_lenD, show (dk es).length = es.length by simp [dk], show d + 1 + i = es.length by (first | lia | omega), Nat.beq_refl, bcase_t, bcase_t, keyAt_eq es i _ _ (by (first | lia | omega)), ht, hr]
    exact e kn kr
theorem ru_dict {t : Tgt} {I : Nat → Loc → H → Prop} (hc : Ev c l h (.ref n)) (hx : ∀ i l h, I i l h → h.t.get n = .dict ep (dk es)) (h0 : I 0 l h) (step : ∀ i l h, (hi : i < es.length) → I i l h → ∃ l1 l' h', Tset t (tupP es[i].1) l l1 ∧ Ru s l1 h (.nx l' h') ∧ I (i + 1) l' h') :
    ∃ l' h', I es.length l' h' ∧ Ru (sfor t c s) l h (.nx l' h') := by
  obtain ⟨l', h', hi, e⟩ := dict_go (s := s) hx step es.length 0 l h (by (first | lia | omega)) h0
  refine ⟨l', h', hi, fun kn kr kb kc => ?_⟩
  show c l h _ = _
  rw [hc]
  show objCase (getT h n) _ _ _ = _
  rw [show getT h n = .dict ep (dk es) from hx _ _ _ h0]
  show forDict t s kn kr n ep (Nat.succ (lenD (dk es))) 0 l h = _
  rw [sy_lenD, show (dk es).length = es.length by simp [dk]]; exact e kn kr
end
-- part Sy11
-- Sy11: _law_solve (own work)
abbrev So := Es × Es × List (Pl × List Pl)
noncomputable def aftP (G : GM) (db : Bool) (p : Pl) : Nat × List Pl := aftN G db p.sd p.st p.pw p.wk
noncomputable def m2N (s : Nat) : Nat := ncase (Nat.ble (1 + 1) s) 1 s * 2
noncomputable def so1 (G : GM) (S : So) (p : Pl) : So :=
  (bif Nat.beq (aftP G false p).1 1 then updP p (.bool true) S.1 else S.1, updP p (N (m2N (aftP G false p).1)) S.2.1, bif Nat.beq (aftP G false p).1 3 then S.2.2 ++ [(p, (aftP G false p).2)] else S.2.2)
noncomputable def so2 (G : GM) (st pw : Nat) (S : So) (wk : Nat) : So := so1 G (so1 G S ⟨0, st, pw, wk⟩) ⟨1, st, pw, wk⟩
noncomputable def so3 (G : GM) (pw : Nat) (S : So) (st : Nat) : So := (List.range G.sz).foldl (so2 G st pw) S
noncomputable def so4 (G : GM) (S : So) (pw : Nat) : So := (List.range G.sz).foldl (so3 G pw) S
noncomputable def qsN (G : GM) (col : Nat) : List Nat := (List.range (G.rk - 2)).map fun j => G.fl + col + G.fl * j
noncomputable def so5 (G : GM) (col : Nat) : So := (qsN G col).foldl (so4 G) ([], [], [])
noncomputable def cntP (we : Es) (out : List Pl) : Nat := out.foldl (fun n p => bif hasP p we then n + 1 else n) 0
noncomputable def rd1 (S : Es × Bool) (q : Pl × List Pl) : Es × Bool :=
  bif hasP q.1 S.1 then S else bif wonN q.1.sd (cntP S.1 q.2) q.2.length then (updP q.1 (.bool true) S.1, true) else S
noncomputable def wlS (ns : List (Pl × List Pl)) : Nat → Es → Bool → Option Es
  | 0, _, _ => none
  | f + 1, we, fl => bif fl then wlS ns f (ns.foldl rd1 (we, false)).1 (ns.foldl rd1 (we, false)).2 else some we
noncomputable def solS (G : GM) (col : Nat) : Option Es := match wlS (so5 G col).2.2 64 (so5 G col).1 true with
  | none => none
  | some we => some (we.foldl (fun ts q => updP q.1 (N 4) ts) (so5 G col).2.1)
structure Nd where
  p : Pl
  out : List Pl
  o : Nat
noncomputable def ndV (q : Nd) : V := .tup [tupP q.p, .ref q.o]
noncomputable def ndP (ns : List Nd) : List (Pl × List Pl) := ns.map fun q => (q.p, q.out)
structure SoI (h0 : H) (w td nd : Nat) (we ts : Es) (ns : List Nd) (c : Nat) (h : H) : Prop where
  k : Kp h0.n h0 h
  o : h0.n ≤ w ∧ w < td ∧ td < nd ∧ nd < h.n
  wd : ∃ ep, h.t.get w = .dict ep (dk we)
  tdd : ∃ ep, h.t.get td = .dict ep (dk ts)
  nl : h.t.get nd = .list (ns.map ndV)
  no : ∀ q ∈ ns, nd < q.o ∧ q.o < h.n ∧ h.t.get q.o = .list (q.out.map tupP)
  c : we.length ≤ c ∧ ts.length ≤ c ∧ ns.length ≤ c ∧ ∀ q ∈ ns, q.out.length ≤ 1000
theorem upd_len (p : Pl) (v : V) : ∀ es : Es, (updP p v es).length ≤ es.length + 1
  | [] => Nat.le_refl _
  | q :: r => by
    unfold updP
    cases plEq q.1 p with
    | true => rw [cond_true]; simp
    | false => rw [cond_false]; simpa using upd_len p v r
theorem bKing_len (G : GM) (st pw : Nat) : ∀ xs : List Nat, (bKing G st pw xs).length ≤ xs.length
  | [] => Nat.le_refl _
  | x :: xs => by
    have := bKing_len G st pw xs
    rw [bKing_cons]
    cases bOk G st pw x with
    | true => rw [cond_true]; simp; (first | lia | omega)
    | false => rw [cond_false]; simp; (first | lia | omega)
theorem aft_le {G : GM} (hnb : ∀ i, i < G.sz → (nbN G i).length ≤ 10) {db : Bool} {sd st pw wk : Nat} (h1 : st < G.sz) (h3 : wk < G.sz) : (aftN G db sd st pw wk).1 ≤ 3 ∧ (aftN G db sd st pw wk).2.length ≤ 1000 := by
  have l1 := wKing_len G pw wk (nbN G st)
  have l2 := bKing_len G st pw (nbN G wk)
  have l3 := hnb st h1
  have l4 := hnb wk h3
  have key : ∀ (P : Nat × List Pl → Prop) (b : Bool) (x y : Nat × List Pl), P x → P y → P (pcase b x y) := fun P b x y hx hy => by cases b <;> assumption
  have key2 : ∀ (b : Bool) (x y : List Pl) (n : Nat), x.length ≤ n → y.length ≤ n → (pcase b x y).length ≤ n := fun b x y n hx hy => by cases b <;> assumption
  refine key (fun r => r.1 ≤ 3 ∧ r.2.length ≤ 1000) _ _ _ ⟨by decide, by decide⟩ (key (fun r => r.1 ≤ 3 ∧ r.2.length ≤ 1000) _ _ _ ?_ ?_)
  · rw [aftW_eq]
    refine key (fun r => r.1 ≤ 3 ∧ r.2.length ≤ 1000) _ _ _ ⟨by decide, by decide⟩ (key (fun r => r.1 ≤ 3 ∧ r.2.length ≤ 1000) _ _ _ (key (fun r => r.1 ≤ 3 ∧ r.2.length ≤ 1000) _ _ _ (key (fun r => r.1 ≤ 3 ∧ r.2.length ≤ 1000) _ _ _ ⟨by decide, by decide⟩ ⟨Nat.le_refl _, ?_⟩) ⟨Nat.le_refl _, ?_⟩) ⟨Nat.le_refl _, ?_⟩)
    · show (wKing G pw wk (nbN G st)).length ≤ 1000; (first | lia | omega)
    · rw [List.length_cons]
      have := key2 (bcase db (bcase (Nat.beq (pw / G.fl) 1) (bcase (bnt (Nat.beq (pw + G.fl + G.fl) st)) (bnt (Nat.beq (pw + G.fl + G.fl) wk)) false) false) false) (⟨1, st, pw + G.fl + G.fl, wk⟩ :: wKing G pw wk (nbN G st)) (wKing G pw wk (nbN G st)) 20 (by simp; (first | lia | omega)) (by (first | lia | omega))
      (first | lia | omega)
    · show (wKing G pw wk (nbN G st)).length ≤ 1000; (first | lia | omega)
  · exact key (fun r => r.1 ≤ 3 ∧ r.2.length ≤ 1000) _ _ _ ⟨by decide, by decide⟩ (key (fun r => r.1 ≤ 3 ∧ r.2.length ≤ 1000) _ _ _ ⟨by decide, by decide⟩ ⟨Nat.le_refl _, by show (bKing G st pw (nbN G wk)).length ≤ 1000; (first | lia | omega)⟩)
section
variable {G : GM} {fr : List (List Nat)} {h h0 : H} {l : Loc} {w td nd nr : Nat} {ρ : Nat → Nat} {we ts : Es} {ns : List Nd} {n col : Nat}
theorem ev_min {a b : XE} {i j : Nat} (ha : Ev a l h (N i)) (hb : Ev b l h (N j)) : Ev (xmin a b) l h (N (ncase (Nat.ble (j + 1) i) j i)) := fun k => by
  show a l h _ = _
  rw [ha]
  show b l h _ = _
  rw [hb]
  show bcase (Nat.ble (j + 1) i) (k (N j) h) (k (N i) h) = _
  cases Nat.ble (j + 1) i <;> rfl
theorem SoI.grow {h' : H} (i : SoI h0 w td nd we ts ns n h) (k : Kp h.n h h') : SoI h0 w td nd we ts ns n h' := by
  have o := i.o
  have kn := k.1
  refine ⟨i.k.trans (k.wk (b := h0.n) (Nat.le_refl _)) (.inl rfl), ⟨o.1, o.2.1, o.2.2.1, by (first | lia | omega)⟩, ?_, ?_, ?_, fun q hq => ?_, i.c⟩
  · rw [k.get (by (first | lia | omega)) (by (first | lia | omega))]; exact i.wd
  · rw [k.get (by (first | lia | omega)) (by (first | lia | omega))]; exact i.tdd
  · rw [k.get (by (first | lia | omega)) (by (first | lia | omega))]; exact i.nl
  · obtain ⟨a, b, c⟩ := i.no q hq
    exact ⟨a, by (first | lia | omega), (k.get b (by (first | lia | omega))).trans c⟩
theorem SoI.setT {ep : Nat} {ts' : Es} {m : Nat} (i : SoI h0 w td nd we ts ns n h) (hl : ts'.length ≤ m) (hm : n ≤ m) : SoI h0 w td nd we ts' ns m (h.set td (.dict ep (dk ts'))) := by
  have o := i.o
  refine ⟨i.k.trans (Kp.set td h _) (.inr (by (first | lia | omega))), o, ?_, ⟨ep, by show SO.view _ = _; rw [set_getS, if_pos rfl]; rfl⟩, ?_, fun q hq => ?_, ⟨by have := i.c.1; (first | lia | omega), hl, by have := i.c.2.2.1; (first | lia | omega), i.c.2.2.2⟩⟩
  · obtain ⟨ep, e⟩ := i.wd
    exact ⟨ep, by show SO.view _ = _; rw [set_getS, if_neg (by (first | lia | omega))]; exact e⟩
  · show SO.view _ = _
    rw [set_getS, if_neg (by (first | lia | omega))]; exact i.nl
  · obtain ⟨a, b, c⟩ := i.no q hq
    exact ⟨a, b, by show SO.view _ = _; rw [set_getS, if_neg (by (first | lia | omega))]; exact c⟩
theorem SoI.setW {ep : Nat} {we' : Es} {m : Nat} (i : SoI h0 w td nd we ts ns n h) (hl : we'.length ≤ m) (hm : n ≤ m) : SoI h0 w td nd we' ts ns m (h.set w (.dict ep (dk we'))) := by
  have o := i.o
  refine ⟨i.k.trans (Kp.set w h _) (.inr (by (first | lia | omega))), o, ⟨ep, by show SO.view _ = _; rw [set_getS, if_pos rfl]; rfl⟩, ?_, ?_, fun q hq => ?_, ⟨hl, by have := i.c.2.1; (first | lia | omega), by have := i.c.2.2.1; (first | lia | omega), i.c.2.2.2⟩⟩
  · obtain ⟨ep, e⟩ := i.tdd
    exact ⟨ep, by show SO.view _ = _; rw [set_getS, if_neg (by (first | lia | omega))]; exact e⟩
  · show SO.view _ = _
    rw [set_getS, if_neg (by (first | lia | omega))]; exact i.nl
  · obtain ⟨a, b, c⟩ := i.no q hq
    exact ⟨a, b, by show SO.view _ = _; rw [set_getS, if_neg (by (first | lia | omega))]; exact c⟩
theorem SoI.setN {q : Nd} {m : Nat} (i : SoI h0 w td nd we ts ns n h) (h1 : nd < q.o) (h2 : q.o < h.n) (h3 : h.t.get q.o = .list (q.out.map tupP)) (h4 : q.out.length ≤ 1000) (hm : n ≤ m) (hm2 : ns.length + 1 ≤ m) : SoI h0 w td nd we ts (ns ++ [q]) m (h.set nd (.list (ns.map ndV ++ [ndV q]))) := by
  have o := i.o
  refine ⟨i.k.trans (Kp.set nd h _) (.inr (by (first | lia | omega))), o, ?_, ?_, ?_, fun p hp => ?_, ⟨by have := i.c.1; (first | lia | omega), by have := i.c.2.1; (first | lia | omega), by simp; (first | lia | omega), fun p hp => ?_⟩⟩
  · obtain ⟨ep, e⟩ := i.wd
    exact ⟨ep, by show SO.view _ = _; rw [set_getS, if_neg (by (first | lia | omega))]; exact e⟩
  · obtain ⟨ep, e⟩ := i.tdd
    exact ⟨ep, by show SO.view _ = _; rw [set_getS, if_neg (by (first | lia | omega))]; exact e⟩
  · show SO.view _ = _
    rw [set_getS, if_pos rfl, List.map_append]; rfl
  · have : nd < p.o ∧ p.o < h.n ∧ h.t.get p.o = .list (p.out.map tupP) := by
      rcases List.mem_append.mp hp with hp | hp
      · exact i.no p hp
      · rw [List.mem_singleton] at hp; subst hp; exact ⟨h1, h2, h3⟩
    exact ⟨this.1, this.2.1, by show SO.view _ = _; rw [set_getS, if_neg (by (first | lia | omega))]; exact this.2.2⟩
  · rcases List.mem_append.mp hp with hp | hp
    · exact i.c.2.2.2 p hp
    · rw [List.mem_singleton] at hp; subst hp; exact h4
noncomputable abbrev soB : XS := (sseq (sset (nat_lit 12) (xtup (econs (xloc (nat_lit 11)) (econs (xloc (nat_lit 9)) (econs (xloc (nat_lit 8)) (econs (xloc (nat_lit 10)) enil))))))
     (sseq (sunpack [(nat_lit 13), (nat_lit 14)] (xcall f__law_after (econs (xloc (nat_lit 0)) (econs (xloc (nat_lit 1)) (econs (xlit (.bool false)) (econs (xloc (nat_lit 2)) (econs (xloc (nat_lit 11)) (econs (xloc (nat_lit 9)) (econs (xloc (nat_lit 8)) (econs (xloc (nat_lit 10)) enil))))))))))
     (sseq (ssub (xloc (nat_lit 6)) (xloc (nat_lit 12)) (xbin omul (xmin (xloc (nat_lit 13)) (xlit (.int (.ofNat (nat_lit 1))))) (xlit (.int (.ofNat (nat_lit 2))))))
     (sseq (sif (xcmp ceq (xloc (nat_lit 13)) (xlit (.int (.ofNat (nat_lit 1)))))
      (ssub (xloc (nat_lit 5)) (xloc (nat_lit 12)) (xlit (.bool true)))
      spass)
     (sif (xcmp ceq (xloc (nat_lit 13)) (xlit (.int (.ofNat (nat_lit 3)))))
      (sexpr (xappend (xloc (nat_lit 7)) (xtup (econs (xloc (nat_lit 12)) (econs (xloc (nat_lit 14)) enil)))))
      spass)))))
abbrev LSo (G : GM) (nr col w td nd : Nat) (x8 x9 x10 x11 x12 x13 x14 x15 x16 x17 : V) : Loc := [N G.fl, N G.rk, .ref nr, N col, N G.sz, .ref w, .ref td, .ref nd, x8, x9, x10, x11, x12, x13, x14, x15, x16, x17]
theorem tup_ne {p : Pl} : tupP p ≠ .unb := fun z => by cases z
theorem ev_pl {i : Nat} {p : Pl} (e : getV l i = tupP p) : Ev (xloc i) l h (tupP p) := ev_loc e tup_ne
set_option maxHeartbeats 1000000 in
theorem ru_soB {x12 x13 x14 x15 x16 x17 : V} {p : Pl} (R : RowsF G h0.n h0 nr ρ) (s' : Ok3 G fr) (hr : h0.r ≤ h0.n) (h1 : p.st < G.sz) (h2 : G.fl ≤ p.pw) (h3 : p.wk < G.sz) (hn : n ≤ 90000) (i : SoI h0 w td nd we ts ns n h) :
    ∃ h' y12 y13 y14 ns', Ru soB (LSo G nr col w td nd (N p.pw) (N p.st) (N p.wk) (N p.sd) x12 x13 x14 x15 x16 x17) h (.nx (LSo G nr col w td nd (N p.pw) (N p.st) (N p.wk) (N p.sd) y12 y13 y14 x15 x16 x17) h') ∧
      SoI h0 w td nd (so1 G (we, ts, ndP ns) p).1 (so1 G (we, ts, ndP ns) p).2.1 ns' (n + 1) h' ∧ ndP ns' = (so1 G (we, ts, ndP ns) p).2.2 := by
  have o := i.o
  have RR : RowsF G h.n h nr ρ := (R.kp i.k).to (Nat.le_refl _)
  have hk := i.k.2.1
  obtain ⟨v, h1', q1, oo, rfl, q2, q3, q4, q5⟩ := fc_after (db := false) (sd := p.sd) RR s' (by rw [hk]; (first | lia | omega)) h1 h2 h3
  have al := aft_le (G := G) s'.nbl (db := false) (sd := p.sd) (pw := p.pw) h1 h3
  have i1 := i.grow q2
  have o1 := i1.o
  have hk1 : h1'.r = h0.r := q2.2.1.trans hk
  let r := aftP G false p
  have er : aftN G false p.sd p.st p.pw p.wk = aftP G false p := rfl
  rw [er] at q5 al q1
  have r1 : Ru (sset (nat_lit 12) (xtup (econs (xloc (nat_lit 11)) (econs (xloc (nat_lit 9)) (econs (xloc (nat_lit 8)) (econs (xloc (nat_lit 10)) enil)))))) (LSo G nr col w td nd (N p.pw) (N p.st) (N p.wk) (N p.sd) x12 x13 x14 x15 x16 x17) h
    (.nx (LSo G nr col w td nd (N p.pw) (N p.st) (N p.wk) (N p.sd) (tupP p) x13 x14 x15 x16 x17) h) := ru_set (Ev.ex (ev_tup (by (repeat' first | walk_at "kp_ev" | (first | lia | omega))) (by simp))) rfl
  have r2 : Ru (sunpack [(nat_lit 13), (nat_lit 14)] (xcall f__law_after (econs (xloc (nat_lit 0)) (econs (xloc (nat_lit 1)) (econs (xlit (.bool false)) (econs (xloc (nat_lit 2)) (econs (xloc (nat_lit 11)) (econs (xloc (nat_lit 9)) (econs (xloc (nat_lit 8)) (econs (xloc (nat_lit 10)) enil)))))))))) (LSo G nr col w td nd (N p.pw) (N p.st) (N p.wk) (N p.sd) (tupP p) x13 x14 x15 x16 x17) h
    (.nx (LSo G nr col w td nd (N p.pw) (N p.st) (N p.wk) (N p.sd) (tupP p) (N (aftP G false p).1) (.ref oo) x15 x16 x17) h1') := ru_unpack (ev_fc (by (repeat' first | walk_at "kp_ev" | (first | lia | omega))) q1) (fun _ => rfl)
  obtain ⟨ept, et⟩ := i1.tdd
  have q6 : ncase (Nat.ble (1 + 1) (aftP G false p).1) 1 (aftP G false p).1 < 2 ^ 60 := by
    have := al.1
    cases Nat.ble (1 + 1) (aftP G false p).1
    · rw [ncase_f]; (first | lia | omega)
    · rw [ncase_t]; (first | lia | omega)
  obtain ⟨ep', r3⟩ := ru_subD (l := LSo G nr col w td nd (N p.pw) (N p.st) (N p.wk) (N p.sd) (tupP p) (N (aftP G false p).1) (.ref oo) x15 x16 x17) (h := h1') (o := xloc 6) (q := xloc 12) (p := p) (e := xbin omul (xmin (xloc (nat_lit 13)) (xlit (.int (.ofNat (nat_lit 1))))) (xlit (.int (.ofNat (nat_lit 2))))) (v := N (m2N (aftP G false p).1))
    (ev_bin (ev_min (nv_loc rfl) ev_k1) ev_k2 (fun k => n_mul k q6)) (ev_ref rfl) (ev_pl rfl) et (by have := i1.c.2.1; (first | lia | omega)) (by rw [hk1]; (first | lia | omega))
  have ul := upd_len p (N (m2N (aftP G false p).1)) ts
  have i3 := i1.setT (ep := ep') (ts' := updP p (N (m2N (aftP G false p).1)) ts) (m := n + 1) (by have := i1.c.2.1; (first | lia | omega)) (by (first | lia | omega))
  have o3 := i3.o
  have c4 : Tv (xcmp ceq (xloc (nat_lit 13)) (xlit (.int (.ofNat (nat_lit 1))))) (LSo G nr col w td nd (N p.pw) (N p.st) (N p.wk) (N p.sd) (tupP p) (N (aftP G false p).1) (.ref oo) x15 x16 x17) (h1'.set td (.dict ep' (dk (updP p (N (m2N (aftP G false p).1)) ts)))) (Nat.beq (aftP G false p).1 1) := by (repeat' first | walk_at "kp_ev" | (first | lia | omega))
  obtain ⟨h4, r4, i4, kk4, nn4⟩ : ∃ h4, Ru (sif (xcmp ceq (xloc (nat_lit 13)) (xlit (.int (.ofNat (nat_lit 1))))) (ssub (xloc (nat_lit 5)) (xloc (nat_lit 12)) (xlit (.bool true))) spass)
      (LSo G nr col w td nd (N p.pw) (N p.st) (N p.wk) (N p.sd) (tupP p) (N (aftP G false p).1) (.ref oo) x15 x16 x17) (h1'.set td (.dict ep' (dk (updP p (N (m2N (aftP G false p).1)) ts))))
      (.nx (LSo G nr col w td nd (N p.pw) (N p.st) (N p.wk) (N p.sd) (tupP p) (N (aftP G false p).1) (.ref oo) x15 x16 x17) h4) ∧ SoI h0 w td nd (bif Nat.beq (aftP G false p).1 1 then updP p (.bool true) we else we) (updP p (N (m2N (aftP G false p).1)) ts) ns (n + 1) h4 ∧ h4.t.get oo = .list ((aftP G false p).2.map tupP) ∧ h4.n = h1'.n := by
    have go : (h1'.set td (.dict ep' (dk (updP p (N (m2N (aftP G false p).1)) ts)))).t.get oo = .list ((aftP G false p).2.map tupP) := by
      show SO.view _ = _
      rw [set_getS, if_neg (by (first | lia | omega))]; exact q5
    cases q : Nat.beq (aftP G false p).1 1 with
    | true =>
      rw [q] at c4
      rw [cond_true]
      obtain ⟨epw, ew⟩ := i3.wd
      obtain ⟨ep2, r5⟩ := ru_subD (l := LSo G nr col w td nd (N p.pw) (N p.st) (N p.wk) (N p.sd) (tupP p) (N (aftP G false p).1) (.ref oo) x15 x16 x17) (o := xloc 5) (q := xloc 12) (p := p) (e := xlit (.bool true)) (v := .bool true) ev_lit (ev_ref rfl) (ev_pl rfl) ew (by have := i3.c.1; (first | lia | omega)) (by show h1'.r ≤ w; rw [hk1]; (first | lia | omega))
      have ul2 := upd_len p (.bool true) we
      exact ⟨_, ru_ifT c4 r5, i3.setW (by have := i.c.1; (first | lia | omega)) (Nat.le_refl _), by show SO.view _ = _; rw [set_getS, if_neg (by (first | lia | omega))]; exact go, rfl⟩
    | false =>
      rw [q] at c4
      rw [cond_false]
      exact ⟨_, ru_ifF c4 ru_pass, i3, go, rfl⟩
  have o4 := i4.o
  have e1 : so1 G (we, ts, ndP ns) p = (bif Nat.beq (aftP G false p).1 1 then updP p (.bool true) we else we, updP p (N (m2N (aftP G false p).1)) ts, bif Nat.beq (aftP G false p).1 3 then ndP ns ++ [(p, (aftP G false p).2)] else ndP ns) := rfl
  rw [e1]
  dsimp only
  have c6 : Tv (xcmp ceq (xloc (nat_lit 13)) (xlit (.int (.ofNat (nat_lit 3))))) (LSo G nr col w td nd (N p.pw) (N p.st) (N p.wk) (N p.sd) (tupP p) (N (aftP G false p).1) (.ref oo) x15 x16 x17) h4 (Nat.beq (aftP G false p).1 3) := by (repeat' first | walk_at "kp_ev" | (first | lia | omega))
  cases q : Nat.beq (aftP G false p).1 3 with
  | true =>
    rw [q] at c6
    have r6 := ru_append (l := LSo G nr col w td nd (N p.pw) (N p.st) (N p.wk) (N p.sd) (tupP p) (N (aftP G false p).1) (.ref oo) x15 x16 x17) (h := h4) (o := xloc 7) (e := xtup (econs (xloc 12) (econs (xloc 14) enil))) (v := ndV ⟨p, (aftP G false p).2, oo⟩) (ev_ref rfl) (ev_tup (evs_cons (ev_pl rfl) (evs_cons (ev_ref rfl) evs_nil)) (by simp)) i4.nl (by have := i4.c.2.2.1; simp; (first | lia | omega)) (by rw [i4.k.2.1]; (first | lia | omega))
    refine ⟨_, _, _, _, ns ++ [⟨p, (aftP G false p).2, oo⟩], ru_seq r1 (ru_seq r2 (ru_seq r3 (ru_seq r4 (ru_ifT c6 r6)))), i4.setN (q := ⟨p, (aftP G false p).2, oo⟩) (by show nd < oo; have := i.o; (first | lia | omega)) (by show oo < h4.n; rw [nn4]; exact q4) kk4 al.2 (Nat.le_refl _) (by have := i.c.2.2.1; (first | lia | omega)), ?_⟩
    · rw [cond_true]
      unfold ndP
      simp
  | false =>
    rw [q] at c6
    refine ⟨_, _, _, _, ns, ru_seq r1 (ru_seq r2 (ru_seq r3 (ru_seq r4 (ru_ifF c6 ru_pass)))), i4, ?_⟩
    rw [cond_false]
end
-- part Sy12
-- Sy12: _law_solve, the loops (own work)
section
variable {G : GM} {fr : List (List Nat)} {h h0 : H} {l : Loc} {w td nd nr : Nat} {ρ : Nat → Nat} {n col : Nat}
-- a state of the making, told by the pure one
noncomputable def SoS (h0 : H) (w td nd : Nat) (S : So) (c : Nat) (h : H) : Prop := ∃ ns, SoI h0 w td nd S.1 S.2.1 ns c h ∧ ndP ns = S.2.2
theorem SoS.up {S : So} {c d : Nat} (x : SoS h0 w td nd S c h) (hd : c ≤ d) : SoS h0 w td nd S d h := by
  obtain ⟨ns, i, e⟩ := x
  exact ⟨ns, ⟨i.k, i.o, i.wd, i.tdd, i.nl, i.no, by have := i.c.1; (first | lia | omega), by have := i.c.2.1; (first | lia | omega), by have := i.c.2.2.1; (first | lia | omega), i.c.2.2.2⟩, e⟩
noncomputable abbrev soL1 : XS := (sfor (tvar (nat_lit 11)) (xtup (econs (xlit (.int (.ofNat (nat_lit 0)))) (econs (xlit (.int (.ofNat (nat_lit 1)))) enil))) soB)
noncomputable abbrev soL2 : XS := (sfor (tvar (nat_lit 10)) (xrange1 (xloc (nat_lit 4))) soL1)
noncomputable abbrev soL3 : XS := (sfor (tvar (nat_lit 9)) (xrange1 (xloc (nat_lit 4))) soL2)
noncomputable abbrev A3 (G : GM) (nr col w td nd pw st wk : Nat) (a : List V) : Loc := LSo G nr col w td nd (N pw) (N st) (N wk) (getV a 0) (getV a 1) (getV a 2) (getV a 3) (getV a 4) (getV a 5) (getV a 6)
noncomputable abbrev A2 (G : GM) (nr col w td nd pw st : Nat) (a : List V) : Loc := LSo G nr col w td nd (N pw) (N st) (getV a 0) (getV a 1) (getV a 2) (getV a 3) (getV a 4) (getV a 5) (getV a 6) (getV a 7)
noncomputable abbrev A1 (G : GM) (nr col w td nd pw : Nat) (a : List V) : Loc := LSo G nr col w td nd (N pw) (getV a 0) (getV a 1) (getV a 2) (getV a 3) (getV a 4) (getV a 5) (getV a 6) (getV a 7) (getV a 8)
noncomputable abbrev A0 (G : GM) (nr col w td nd : Nat) (a : List V) : Loc := LSo G nr col w td nd (getV a 0) (getV a 1) (getV a 2) (getV a 3) (getV a 4) (getV a 5) (getV a 6) (getV a 7) (getV a 8) (getV a 9)
noncomputable abbrev AR (G : GM) (nr col w td nd : Nat) (fl : Bool) (a : List V) : Loc := LSo G nr col w td nd (getV a 0) (getV a 1) (getV a 2) (getV a 3) (getV a 4) (getV a 5) (getV a 6) (.bool fl) (getV a 7) (getV a 8)
theorem ru_soL1 {S : So} {st pw wk : Nat} {a : List V} (R : RowsF G h0.n h0 nr ρ) (s' : Ok3 G fr) (hr : h0.r ≤ h0.n) (h1 : st < G.sz) (h2 : G.fl ≤ pw) (h3 : wk < G.sz) (hn : n ≤ 80000) (i : SoS h0 w td nd S n h) :
    ∃ h' a', Ru soL1 (A3 G nr col w td nd pw st wk a) h (.nx (A3 G nr col w td nd pw st wk a') h') ∧ SoS h0 w td nd (so2 G st pw S wk) (n + 2) h' := by
  obtain ⟨ns, i, e⟩ := i
  obtain ⟨ha, a12, a13, a14, ns1, r1, i1, e1⟩ := ru_soB (col := col) (x12 := getV a 1) (x13 := getV a 2) (x14 := getV a 3) (x15 := getV a 4) (x16 := getV a 5) (x17 := getV a 6) (p := ⟨0, st, pw, wk⟩) R s' hr h1 h2 h3 (by (first | lia | omega)) i
  obtain ⟨hb, b12, b13, b14, ns2, r2, i2, e2⟩ := ru_soB (col := col) (x12 := a12) (x13 := a13) (x14 := a14) (x15 := getV a 4) (x16 := getV a 5) (x17 := getV a 6) (p := ⟨1, st, pw, wk⟩) R s' hr h1 h2 h3 (by (first | lia | omega)) i1
  have es : so2 G st pw S wk = so1 G (so1 G (S.1, S.2.1, ndP ns) ⟨0, st, pw, wk⟩) ⟨1, st, pw, wk⟩ := by rw [e]; rfl
  refine ⟨hb, [N 1, b12, b13, b14, getV a 4, getV a 5, getV a 6], ru_tup2 (ev_tup (by (repeat' first | walk_at "kp_ev" | (first | lia | omega))) (by simp)) (ts_var rfl) r1 (ts_var rfl) r2, ns2, ?_, ?_⟩
  · rw [es]
    rw [e1] at i2
    exact i2
  · rw [es]
    rw [e1] at e2
    exact e2
theorem ru_soL2 {S : So} {st pw : Nat} {a : List V} (R : RowsF G h0.n h0 nr ρ) (s' : Ok3 G fr) (hr : h0.r ≤ h0.n) (h1 : st < G.sz) (h2 : G.fl ≤ pw) (hn : n ≤ 70000) (i : SoS h0 w td nd S n h) :
    ∃ h' a', Ru soL2 (A2 G nr col w td nd pw st a) h (.nx (A2 G nr col w td nd pw st a') h') ∧ SoS h0 w td nd (so3 G pw S st) (n + 20) h' := by
  have bd := s'.bd
  have lp := ru_for1 (x := 10) (n := G.sz) (h := h) (a := soL1) (c := xrange1 (xloc (nat_lit 4))) (l := A2 G nr col w td nd pw st a)
    (I := fun i l h' => ∃ a S', l = A2 G nr col w td nd pw st a ∧ SoS h0 w td nd S' (n + i * 2) h' ∧ ((List.range G.sz).drop i).foldl (so2 G st pw) S' = so3 G pw S st)
    (ev_range1 (nv_loc rfl) (by (first | lia | omega))) ⟨a, S, rfl, i, rfl⟩ (fun i l h' hi x => by
      obtain ⟨a, S', rfl, ii, e⟩ := x
      have il : i < (List.range G.sz).length := by simpa using hi
      rw [foldl_drop _ _ il] at e
      obtain ⟨h2', a', r, i2⟩ := ru_soL1 (col := col) (a := [getV a 1, getV a 2, getV a 3, getV a 4, getV a 5, getV a 6, getV a 7]) (wk := i) R s' hr h1 h2 hi (by (first | lia | omega)) ii
      exact ⟨_, _, h2', rfl, r, [N i, getV a' 0, getV a' 1, getV a' 2, getV a' 3, getV a' 4, getV a' 5, getV a' 6], so2 G st pw S' i, rfl, i2.up (by (first | lia | omega)), by rw [← e]; simp⟩)
  obtain ⟨l', h', ⟨a', S', rfl, i', e⟩, lp⟩ := lp
  rw [List.drop_eq_nil_of_le (by simp)] at e
  have e : S' = so3 G pw S st := e
  exact ⟨h', a', lp, by rw [← e]; exact i'.up (by (first | lia | omega))⟩
theorem ru_soL3 {S : So} {pw : Nat} {a : List V} (R : RowsF G h0.n h0 nr ρ) (s' : Ok3 G fr) (hr : h0.r ≤ h0.n) (h2 : G.fl ≤ pw) (hn : n ≤ 60000) (i : SoS h0 w td nd S n h) :
    ∃ h' a', Ru soL3 (A1 G nr col w td nd pw a) h (.nx (A1 G nr col w td nd pw a') h') ∧ SoS h0 w td nd (so4 G S pw) (n + 200) h' := by
  have bd := s'.bd
  have lp := ru_for1 (x := 9) (n := G.sz) (h := h) (a := soL2) (c := xrange1 (xloc (nat_lit 4))) (l := A1 G nr col w td nd pw a)
    (I := fun i l h' => ∃ a S', l = A1 G nr col w td nd pw a ∧ SoS h0 w td nd S' (n + i * 20) h' ∧ ((List.range G.sz).drop i).foldl (so3 G pw) S' = so4 G S pw)
    (ev_range1 (nv_loc rfl) (by (first | lia | omega))) ⟨a, S, rfl, i, rfl⟩ (fun i l h' hi x => by
      obtain ⟨a, S', rfl, ii, e⟩ := x
      have il : i < (List.range G.sz).length := by simpa using hi
      rw [foldl_drop _ _ il] at e
      obtain ⟨h2', a', r, i2⟩ := ru_soL2 (col := col) (a := [getV a 1, getV a 2, getV a 3, getV a 4, getV a 5, getV a 6, getV a 7, getV a 8]) (st := i) R s' hr hi h2 (by (first | lia | omega)) ii
      exact ⟨_, _, h2', rfl, r, [N i, getV a' 0, getV a' 1, getV a' 2, getV a' 3, getV a' 4, getV a' 5, getV a' 6, getV a' 7], so3 G pw S' i, rfl, i2.up (by (first | lia | omega)), by rw [← e]; simp⟩)
  obtain ⟨l', h', ⟨a', S', rfl, i', e⟩, lp⟩ := lp
  rw [List.drop_eq_nil_of_le (by simp)] at e
  have e : S' = so4 G S pw := e
  exact ⟨h', a', lp, by rw [← e]; exact i'.up (by (first | lia | omega))⟩
theorem qs_len (s : Sh G) (hc : col < G.fl) : rcount (.ofNat (G.fl + col)) (.ofNat (G.sz - G.fl)) (.ofNat G.fl) = (qsN G col).length := by
  unfold qsN
  rw [List.length_map, List.length_range]
  have bd := s.bd
  have : col = 0 ∨ col = 1 ∨ (col = 2 ∧ G.fl = 3) := by (first | lia | omega)
  rcases s.sh with ⟨x, y, z⟩ | ⟨x, y, z⟩ | ⟨x, y, z⟩ | ⟨x, y, z⟩ <;> rcases this with rfl | rfl | ⟨rfl, q⟩ <;> first | (rw [x, y, z]; rfl) | (first | lia | omega)
theorem qs_get (s : Sh G) (hc : col < G.fl) (j : Nat) (hj : j < (qsN G col).length) : (Int.ofNat (G.fl + col)) + (Int.ofNat G.fl) * (j : Int) = ((qsN G col)[j] : Nat) ∧ G.fl ≤ (qsN G col)[j] ∧ j < 3 := by
  have e : (qsN G col)[j] = G.fl + col + G.fl * j := by simp [qsN]
  have hl : j < G.rk - 2 := by simpa [qsN] using hj
  have := s.bd
  rw [e]
  exact ⟨by simp only [Int.ofNat_eq_natCast, Int.natCast_add, Int.natCast_mul], by (first | lia | omega), by (first | lia | omega)⟩
-- the rounds
noncomputable abbrev rdC : XS := (sfor (tvar (nat_lit 17)) (xloc (nat_lit 14))
     (sif (xin (xloc (nat_lit 17)) (xloc (nat_lit 5)))
      (saug (nat_lit 16) oadd (xlit (.int (.ofNat (nat_lit 1)))))
      spass))
noncomputable abbrev rdB : XS := (sif (xnotin (xloc (nat_lit 12)) (xloc (nat_lit 5)))
    (sseq (sset (nat_lit 16) (xlit (.int (.ofNat (nat_lit 0)))))
    (sseq rdC
    (sif (xcall f__law_is_won (econs (xsub (xloc (nat_lit 12)) (xlit (.int (.ofNat (nat_lit 0))))) (econs (xloc (nat_lit 16)) (econs (xlen (xloc (nat_lit 14))) enil))))
     (sseq (ssub (xloc (nat_lit 5)) (xloc (nat_lit 12)) (xlit (.bool true)))
     (sset (nat_lit 15) (xlit (.bool true))))
     spass)))
    spass)
theorem ru_rdC {x8 x9 x10 x11 x12 x13 x15 x17 : V} {o ep : Nat} {we : Es} {out : List Pl} (hw : h.t.get w = .dict ep (dk we)) (ho : h.t.get o = .list (out.map tupP)) :
    ∃ y17, Ru rdC (LSo G nr col w td nd x8 x9 x10 x11 x12 x13 (.ref o) x15 (N 0) x17) h (.nx (LSo G nr col w td nd x8 x9 x10 x11 x12 x13 (.ref o) x15 (N (cntP we out)) y17) h) := by
  have lp := ru_list (t := tvar 17) (n := o) (xs := out.map tupP) (c := xloc 14) (h := h) (l := LSo G nr col w td nd x8 x9 x10 x11 x12 x13 (.ref o) x15 (N 0) x17)
    (a := (sif (xin (xloc (nat_lit 17)) (xloc (nat_lit 5))) (saug (nat_lit 16) oadd (xlit (.int (.ofNat (nat_lit 1))))) spass))
    (I := fun i l h' => h' = h ∧ ∃ x17 m, l = LSo G nr col w td nd x8 x9 x10 x11 x12 x13 (.ref o) x15 (N m) x17 ∧ (out.drop i).foldl (fun n p => bif hasP p we then n + 1 else n) m = cntP we out)
    (ev_ref rfl) (fun i l h' x => by rw [x.1]; exact ho) ⟨rfl, x17, 0, rfl, rfl⟩ (fun i l h' hi x => by
      obtain ⟨rfl, x17, m, rfl, e⟩ := x
      obtain ⟨hj, ej⟩ := pl_get hi
      rw [ej]
      rw [foldl_drop _ out hj] at e
      have c : Tv (xin (xloc (nat_lit 17)) (xloc (nat_lit 5))) (LSo G nr col w td nd x8 x9 x10 x11 x12 x13 (.ref o) x15 (N m) (tupP out[i])) h' (hasP out[i] we) := tv_bool (ev_inD (ev_pl rfl) (ev_ref rfl) hw)
      cases q : hasP out[i] we with
      | true =>
        rw [q] at c
        rw [q, cond_true] at e
        exact ⟨_, _, _, ts_var rfl, ru_ifT c (ru_aug (i := m) rfl ev_k1 n_add rfl), rfl, _, _, rfl, e⟩
      | false =>
        rw [q] at c
        rw [q, cond_false] at e
        exact ⟨_, _, _, ts_var rfl, ru_ifF c ru_pass, rfl, _, _, rfl, e⟩)
  obtain ⟨l', h', ⟨rfl, y17, m, rfl, e⟩, lp⟩ := lp
  rw [List.drop_eq_nil_of_le (by simp)] at e
  have e : m = cntP we out := e
  subst e
  exact ⟨y17, lp⟩
theorem ru_rdB {x8 x9 x10 x11 x13 x16 x17 : V} {we ts : Es} {ns : List Nd} {q : Nd} {fl : Bool} {c m : Nat} (hr : h0.r ≤ h0.n) (hq : q ∈ ns) (hc : we.length ≤ m) (hm : m ≤ 90000) (hcm : c ≤ 90000) (i : SoI h0 w td nd we ts ns c h) :
    ∃ h' y16 y17, Ru rdB (LSo G nr col w td nd x8 x9 x10 x11 (tupP q.p) x13 (.ref q.o) (.bool fl) x16 x17) h (.nx (LSo G nr col w td nd x8 x9 x10 x11 (tupP q.p) x13 (.ref q.o) (.bool (rd1 (we, fl) (q.p, q.out)).2) y16 y17) h') ∧
      SoI h0 w td nd (rd1 (we, fl) (q.p, q.out)).1 ts ns (max c (m + 1)) h' ∧ (rd1 (we, fl) (q.p, q.out)).1.length ≤ m + 1 := by
  obtain ⟨ep, hw⟩ := i.wd
  obtain ⟨n1, n2, n3⟩ := i.no q hq
  have o := i.o
  have up : SoI h0 w td nd we ts ns (max c (m + 1)) h := ⟨i.k, i.o, i.wd, i.tdd, i.nl, i.no, by have := i.c.1; (first | lia | omega), by have := i.c.2.1; (first | lia | omega), by have := i.c.2.2.1; (first | lia | omega), i.c.2.2.2⟩
  have c0 : Tv (xnotin (xloc (nat_lit 12)) (xloc (nat_lit 5))) (LSo G nr col w td nd x8 x9 x10 x11 (tupP q.p) x13 (.ref q.o) (.bool fl) x16 x17) h (bnt (hasP q.p we)) := tv_bool (ev_notin (ev_inD (ev_pl rfl) (ev_ref rfl) hw))
  unfold rd1
  dsimp only
  cases q0 : hasP q.p we with
  | true =>
    rw [q0] at c0
    exact ⟨h, _, _, ru_ifF c0 ru_pass, up, by rw [cond_true]; dsimp only; (first | lia | omega)⟩
  | false =>
    rw [q0] at c0
    obtain ⟨y17, r1⟩ := ru_rdC (G := G) (nr := nr) (col := col) (td := td) (nd := nd) (x8 := x8) (x9 := x9) (x10 := x10) (x11 := x11) (x12 := tupP q.p) (x13 := x13) (x15 := .bool fl) (x17 := x17) hw n3
    rw [cond_false]
    have ol := i.c.2.2.2 q hq
    have el := ev_lenL (l := LSo G nr col w td nd x8 x9 x10 x11 (tupP q.p) x13 (.ref q.o) (.bool fl) (N (cntP we q.out)) y17) (a := xloc 14) (ev_ref rfl) n3 (by rw [List.length_map]; (first | lia | omega))
    rw [List.length_map] at el
    have c1 : Tv (xcall f__law_is_won (econs (xsub (xloc (nat_lit 12)) (xlit (.int (.ofNat (nat_lit 0))))) (econs (xloc (nat_lit 16)) (econs (xlen (xloc (nat_lit 14))) enil)))) (LSo G nr col w td nd x8 x9 x10 x11 (tupP q.p) x13 (.ref q.o) (.bool fl) (N (cntP we q.out)) y17) h (wonN q.p.sd (cntP we q.out) q.out.length) :=
      tv_bool (ev_cl (evs_cons (ev_tupN (xs := [N q.p.sd, N q.p.st, N q.p.pw, N q.p.wk]) (j := 0) (ev_pl rfl) ev_k0 rfl (fun z => by cases z) (by (first | lia | omega))) (evs_cons (nv_loc rfl) (evs_cons el evs_nil))) (fc_won _ _ _))
    cases q1 : wonN q.p.sd (cntP we q.out) q.out.length with
    | true =>
      rw [q1] at c1
      have ul := upd_len q.p (.bool true) we
      obtain ⟨ep2, r2⟩ := ru_subD (l := LSo G nr col w td nd x8 x9 x10 x11 (tupP q.p) x13 (.ref q.o) (.bool fl) (N (cntP we q.out)) y17) (o := xloc 5) (q := xloc 12) (p := q.p) (e := xlit (.bool true)) (v := .bool true) ev_lit (ev_ref rfl) (ev_pl rfl) hw (by (first | lia | omega)) (by rw [i.k.2.1]; (first | lia | omega))
      exact ⟨_, _, _, ru_ifT c0 (ru_seq (ru_set ev_k0.ex rfl) (ru_seq r1 (ru_ifT c1 (ru_seq r2 (ru_set ev_lit.ex rfl))))), up.setW (by rw [cond_true]; dsimp only; (first | lia | omega)) (Nat.le_refl _), by rw [cond_true]; dsimp only; (first | lia | omega)⟩
    | false =>
      rw [q1] at c1
      exact ⟨_, _, _, ru_ifT c0 (ru_seq (ru_set ev_k0.ex rfl) (ru_seq r1 (ru_ifF c1 ru_pass))), up, by rw [cond_false]; dsimp only; (first | lia | omega)⟩
theorem ru_rdL {a : List V} {we ts : Es} {ns : List Nd} {fl : Bool} {c : Nat} (hr : h0.r ≤ h0.n) (hc : we.length + ns.length ≤ 80000) (hcm : c ≤ 80000) (i : SoI h0 w td nd we ts ns c h) :
    ∃ h' a', Ru (sfor (ttup [(nat_lit 12), (nat_lit 14)]) (xloc (nat_lit 7)) rdB) (AR G nr col w td nd fl a) h (.nx (AR G nr col w td nd ((ndP ns).foldl rd1 (we, fl)).2 a') h') ∧
      SoI h0 w td nd ((ndP ns).foldl rd1 (we, fl)).1 ts ns (max c (we.length + ns.length)) h' ∧ ((ndP ns).foldl rd1 (we, fl)).1.length ≤ we.length + ns.length := by
  have lp := ru_list (t := ttup [12, 14]) (n := nd) (xs := ns.map ndV) (c := xloc 7) (h := h) (l := AR G nr col w td nd fl a) (a := rdB)
    (I := fun j l h' => ∃ a S c', l = AR G nr col w td nd S.2 a ∧ SoI h0 w td nd S.1 ts ns c' h' ∧ (c' ≤ max c (we.length + j) ∧ S.1.length ≤ we.length + j) ∧ ((ndP ns).drop j).foldl rd1 S = (ndP ns).foldl rd1 (we, fl))
    (ev_ref rfl) (fun j l h' x => by
      obtain ⟨_, _, _, _, i, _⟩ := x
      exact i.nl) ⟨a, (we, fl), c, rfl, i, ⟨by (first | lia | omega), by dsimp only; (first | lia | omega)⟩, rfl⟩ (fun j l h' hj x => by
      obtain ⟨a, ⟨we', fl'⟩, c', rfl, i', ⟨hc', hw'⟩, e⟩ := x
      have hk : j < ns.length := by simpa using hj
      have ek : (ns.map ndV)[j] = ndV ns[j] := by simp
      have hp : j < (ndP ns).length := by simpa [ndP] using hk
      have ep : (ndP ns)[j] = (ns[j].p, ns[j].out) := by simp [ndP]
      rw [ek]
      rw [foldl_drop _ _ hp, ep] at e
      dsimp only at i' hw'
      obtain ⟨h2, y16, y17, r, i2, hl⟩ := ru_rdB (G := G) (nr := nr) (col := col) (x8 := getV a 0) (x9 := getV a 1) (x10 := getV a 2) (x11 := getV a 3) (x13 := getV a 5) (x16 := getV a 7) (x17 := getV a 8) (fl := fl') (m := we.length + j) hr (List.getElem_mem hk) hw' (by (first | lia | omega)) (by (first | lia | omega)) i'
      exact ⟨_, _, h2, fun _ => rfl, r, [getV a 0, getV a 1, getV a 2, getV a 3, tupP ns[j].p, getV a 5, .ref ns[j].o, y16, y17], rd1 (we', fl') (ns[j].p, ns[j].out), _, rfl, i2, ⟨by (first | lia | omega), by (first | lia | omega)⟩, e⟩)
  obtain ⟨l', h', ⟨a', S, c', rfl, i', ⟨hc', hw'⟩, e⟩, lp⟩ := lp
  rw [List.length_map] at hc' hw' e
  rw [List.drop_eq_nil_of_le (by simp [ndP])] at e
  have e : S = (ndP ns).foldl rd1 (we, fl) := e
  rw [← e]
  exact ⟨h', a', lp, ⟨i'.k, i'.o, i'.wd, i'.tdd, i'.nl, i'.no, by have := i'.c.1; (first | lia | omega), by have := i'.c.2.1; (first | lia | omega), by have := i'.c.2.2.1; (first | lia | omega), i'.c.2.2.2⟩, hw'⟩
theorem ru_wl {ts : Es} {ns : List Nd} (hr : h0.r ≤ h0.n) (hns : ns.length ≤ 1000) :
    ∀ (f : Nat) (h : H) (we we' : Es) (fl : Bool) (c : Nat) (a : List V), wlS (ndP ns) f we fl = some we' → f ≤ 64 → we.length + ns.length * f ≤ 70000 → c ≤ 70000 → SoI h0 w td nd we ts ns c h →
      ∃ h' fl' a' c', Ru (swhile (xloc (nat_lit 15)) (sseq (sset (nat_lit 15) (xlit (.bool false))) (sfor (ttup [(nat_lit 12), (nat_lit 14)]) (xloc (nat_lit 7)) rdB)) f) (AR G nr col w td nd fl a) h (.nx (AR G nr col w td nd fl' a') h') ∧
        SoI h0 w td nd we' ts ns c' h' ∧ c' ≤ 70000
  | 0, h, we, we', fl, c, a, e, _, _, _, _ => by cases e
  | f + 1, h, we, we', fl, c, a, e, hf, hl, hc, i => by
    unfold wlS at e
    have tt : Tv (xloc (nat_lit 15)) (AR G nr col w td nd fl a) h fl := tv_bool (ev_bool rfl)
    rw [Nat.mul_add, Nat.mul_one] at hl
    cases fl with
    | false =>
      rw [cond_false] at e
      obtain rfl : we = we' := by simpa using e
      exact ⟨h, _, a, c, ru_wstop tt, i, hc⟩
    | true =>
      rw [cond_true] at e
      obtain ⟨h1, a1, r, i1, hl1⟩ := ru_rdL (G := G) (nr := nr) (col := col) (a := a) (fl := false) hr (by (first | lia | omega)) (by (first | lia | omega)) i
      obtain ⟨h2, fl', a2, c', r2, i2, hc2⟩ := ru_wl hr hns f h1 _ we' _ _ a1 e (by (first | lia | omega)) (by (first | lia | omega)) (by (first | lia | omega)) i1
      exact ⟨h2, fl', a2, c', ru_wnext tt (ru_seq (ru_set ev_lit.ex rfl) r) r2, i2, hc2⟩
set_option maxHeartbeats 1000000 in
theorem fc_solve {es : Es} (R : RowsF G h.n h nr ρ) (s' : Ok3 G fr) (hr : h.r ≤ h.n) (hc : col < G.fl) (he : solS G col = some es) :
    ∃ h' td, Fc f__law_solve [N G.fl, N G.rk, .ref nr, N col] h (.ref td) h' ∧ Kp h.n h h' ∧ h.n ≤ td ∧ td < h'.n ∧ ∃ ep, h'.t.get td = .dict ep (dk es) := by
  have bd := s'.bd
  have hz : G.fl * G.rk = G.sz := by rcases s'.sh with ⟨x, y, z⟩ | ⟨x, y, z⟩ | ⟨x, y, z⟩ | ⟨x, y, z⟩ <;> rw [x, y, z]
  have r1 : Ru (sset (nat_lit 4) (xbin omul (xloc (nat_lit 0)) (xloc (nat_lit 1)))) [N G.fl, N G.rk, .ref nr, N col, .unb, .unb, .unb, .unb, .unb, .unb, .unb, .unb, .unb, .unb, .unb, .unb, .unb, .unb] h
    (.nx [N G.fl, N G.rk, .ref nr, N col, N G.sz, .unb, .unb, .unb, .unb, .unb, .unb, .unb, .unb, .unb, .unb, .unb, .unb, .unb] h) := ru_set (Ev.ex (by rw [← hz]; (repeat' first | walk_at "kp_ev" | (first | lia | omega)))) rfl
  have i0 : SoS h h.n (h.n + 1) (h.n + 2) ([], [], []) 0 (((h.new (.dict 0 [])).new (.dict 0 [])).new (.list [])) := by
    refine ⟨[], ⟨((Kp.new h.n h _).trans (Kp.new h.n _ _) (.inl rfl)).trans (Kp.new h.n _ _) (.inl rfl), ⟨Nat.le_refl _, by (first | lia | omega), by (first | lia | omega), by show h.n + 2 < h.n + 1 + 1 + 1; (first | lia | omega)⟩, ⟨0, ?_⟩, ⟨0, ?_⟩, ?_, (fun q hq => by cases hq), Nat.le_refl _, Nat.le_refl _, Nat.le_refl _, (fun q hq => by cases hq)⟩, rfl⟩
    · show SO.view _ = _
      rw [new_getS, if_neg (by show h.n + 1 + 1 ≠ h.n; (first | lia | omega)), new_getS, if_neg (by show h.n + 1 ≠ h.n; (first | lia | omega)), new_getS, if_pos rfl]; rfl
    · show SO.view _ = _
      rw [new_getS, if_neg (by show h.n + 1 + 1 ≠ h.n + 1; (first | lia | omega)), new_getS, if_pos (show (h.new (.dict 0 [])).n = h.n + 1 from rfl)]; rfl
    · show SO.view _ = _
      rw [new_getS, if_pos (show ((h.new (.dict 0 [])).new (.dict 0 [])).n = h.n + 2 from rfl)]; rfl
  have lp := ru_for (t := tvar 8) (ps := qsN G col) (x := .ofNat (G.fl + col)) (y := .ofNat (G.sz - G.fl)) (st := .ofNat G.fl) (a := soL3)
    (h := ((h.new (.dict 0 [])).new (.dict 0 [])).new (.list [])) (c := xrange3 (xbin oadd (xloc (nat_lit 0)) (xloc (nat_lit 3))) (xbin osub (xloc (nat_lit 4)) (xloc (nat_lit 0))) (xloc (nat_lit 0)))
    (l := LSo G nr col h.n (h.n + 1) (h.n + 2) .unb .unb .unb .unb .unb .unb .unb .unb .unb .unb)
    (I := fun i l h' => ∃ a S', l = A0 G nr col h.n (h.n + 1) (h.n + 2) a ∧ SoS h h.n (h.n + 1) (h.n + 2) S' (i * 200) h' ∧ ((qsN G col).drop i).foldl (so4 G) S' = so5 G col)
    (ru_range3 (i := G.fl + col) (j := G.sz - G.fl) (m := .ofNat G.fl) (by (repeat' first | walk_at "kp_ev" | (first | lia | omega))) (by (repeat' first | walk_at "kp_ev" | (first | lia | omega))) (by (repeat' first | walk_at "kp_ev" | (first | lia | omega))) (by (first | lia | omega)) (by (first | lia | omega)) (by
      have : G.fl = 2 ∨ G.fl = 3 := by (first | lia | omega)
      rcases this with q | q <;> rw [q] <;> rfl))
    (qs_len s'.toSh hc) (fun j hj => (qs_get s'.toSh hc j hj).1) ⟨[], ([], [], []), rfl, (by rw [Nat.zero_mul]; exact i0), rfl⟩ (fun k l h' hk x => by
      obtain ⟨a, S', rfl, ii, e⟩ := x
      obtain ⟨-, d1, d2⟩ := qs_get s'.toSh hc k hk
      rw [foldl_drop _ _ hk] at e
      obtain ⟨h2', a', r, i2⟩ := ru_soL3 (col := col) (a := [getV a 1, getV a 2, getV a 3, getV a 4, getV a 5, getV a 6, getV a 7, getV a 8, getV a 9]) (pw := (qsN G col)[k]) R s' hr d1 (by (first | lia | omega)) ii
      exact ⟨_, _, h2', ts_var rfl, r, [N (qsN G col)[k], getV a' 0, getV a' 1, getV a' 2, getV a' 3, getV a' 4, getV a' 5, getV a' 6, getV a' 7, getV a' 8], _, rfl, i2.up (by (first | lia | omega)), e⟩)
  obtain ⟨l1, h1, ⟨a, S', rfl, ⟨ns, i1, en⟩, e⟩, lp⟩ := lp
  rw [List.drop_eq_nil_of_le (Nat.le_refl _)] at e
  have e : S' = so5 G col := e
  subst e
  have ql : (qsN G col).length ≤ 3 := by unfold qsN; rw [List.length_map, List.length_range]; (first | lia | omega)
  unfold solS at he
  cases hw : wlS (so5 G col).2.2 64 (so5 G col).1 true with
  | none => rw [hw] at he; cases he
  | some we =>
    rw [hw] at he
    have he : we.foldl (fun ts q => updP q.1 (N 4) ts) (so5 G col).2.1 = es := by simpa using he
    have c1 := i1.c
    rw [← en] at hw
    obtain ⟨h2, fl', a2, c', r2, i2, hc2⟩ := ru_wl (G := G) (nr := nr) (col := col) hr (by (first | lia | omega)) 64 h1 _ we true _ [getV a 0, getV a 1, getV a 2, getV a 3, getV a 4, getV a 5, getV a 6, getV a 8, getV a 9] hw (by (first | lia | omega)) (by (first | lia | omega)) (by (first | lia | omega)) i1
    have o2 := i2.o
    obtain ⟨epw, ew⟩ := i2.wd
    have lq := ru_dict (t := tvar 12) (n := h.n) (ep := epw) (es := we) (c := xloc 5) (h := h2) (s := (ssub (xloc (nat_lit 6)) (xloc (nat_lit 12)) (xlit (.int (.ofNat (nat_lit 4))))))
      (l := AR G nr col h.n (h.n + 1) (h.n + 2) fl' a2)
      (I := fun j l h' => h'.t.get h.n = .dict epw (dk we) ∧ ∃ a ts' c'', l = AR G nr col h.n (h.n + 1) (h.n + 2) fl' a ∧ SoI h h.n (h.n + 1) (h.n + 2) we ts' ns c'' h' ∧ c'' ≤ c' + j ∧ (we.drop j).foldl (fun ts q => updP q.1 (N 4) ts) ts' = es)
      (ev_ref rfl) (fun j l h' x => x.1) ⟨ew, a2, _, c', rfl, i2, Nat.le_refl _, he⟩ (fun j l h' hj x => by
        obtain ⟨k1, a, ts', c'', rfl, ii, hc'', e⟩ := x
        rw [foldl_drop _ _ hj] at e
        obtain ⟨ept, et⟩ := ii.tdd
        have cc := ii.c
        have hwl := i2.c.1
        have ul := upd_len we[j].1 (N 4) ts'
        obtain ⟨ep', r⟩ := ru_subD (l := AR G nr col h.n (h.n + 1) (h.n + 2) fl' [getV a 0, getV a 1, getV a 2, getV a 3, tupP we[j].1, getV a 5, getV a 6, getV a 7, getV a 8]) (h := h') (o := xloc 6) (q := xloc 12) (p := we[j].1) (e := (xlit (.int (.ofNat (nat_lit 4))))) (v := N 4) ev_k4 (ev_ref rfl) (ev_pl rfl) et (by (first | lia | omega)) (by rw [ii.k.2.1]; (first | lia | omega))
        exact ⟨_, _, _, ts_var rfl, r, by show SO.view _ = _; rw [set_getS, if_neg (by (first | lia | omega))]; exact k1, [getV a 0, getV a 1, getV a 2, getV a 3, tupP we[j].1, getV a 5, getV a 6, getV a 7, getV a 8], _, c'' + 1, rfl, ii.setT (by (first | lia | omega)) (by (first | lia | omega)), by (first | lia | omega), e⟩)
    obtain ⟨l3, h3, ⟨k1, a3, ts', c'', rfl, i3, -, e3⟩, lq⟩ := lq
    rw [List.drop_eq_nil_of_le (Nat.le_refl _)] at e3
    have e3 : ts' = es := e3
    subst e3
    have o3 := i3.o
    exact ⟨h3, h.n + 1, fc_fn rfl (ru_seq r1 (ru_seq (ru_set ex_dict rfl) (ru_seq (ru_set ex_dict rfl) (ru_seq (ru_set ex_nil rfl) (ru_seq lp (ru_seq (ru_set ev_lit.ex rfl) (ru_seq r2 (ru_seq lq (ru_ret (Ev.ex (ev_ref rfl))))))))))), i3.k, by (first | lia | omega), by (first | lia | omega), i3.tdd⟩
end
-- part Sy13
-- Sy13: probe_kpk on the board; the compare loop (own work)
noncomputable def mirN (fl x : Nat) : Nat := Nat.sub (Nat.sub (Nat.add (Nat.sub x (Nat.mod x fl)) fl) (nat_lit 1)) (Nat.mod x fl)
theorem mirN_eq (fl x : Nat) : mirN fl x = x - x % fl + fl - 1 - x % fl := rfl
noncomputable def tblN (G : GM) (z sd st pw wk : Nat) : Nat :=
  ncase (bnt (Nat.ble (Nat.add (Nat.mod pw G.fl) (nat_lit 1)) (Nat.div (Nat.add G.fl (nat_lit 1)) (nat_lit 2)))) (digI G z sd (mirN G.fl st) (mirN G.fl pw) (mirN G.fl wk)) (digI G z sd st pw wk)
theorem tblN_eq (G : GM) (z sd st pw wk : Nat) : tblN G z sd st pw wk =
  ncase (bnt (Nat.ble (pw % G.fl + 1) ((G.fl + 1) / 2))) (digP z (65536 ^ idxN G sd (mirN G.fl st) (mirN G.fl pw) (mirN G.fl wk))) (digP z (65536 ^ idxN G sd st pw wk)) := rfl
noncomputable def InR (G : GM) (pw : Nat) : Prop := G.fl ≤ pw ∧ pw < G.sz - G.fl
section
variable {G : GM} {fr : List (List Nat)} {b : Nat} {h : H} {g kr pr p0 bb z : Nat} {l : Loc} {sd st pw wk x : Nat}
theorem sz_div (s : Sh G) : x < G.sz ↔ x / G.fl < G.rk := by rw [s.zz]; exact (Nat.div_lt_iff_lt_mul s.f0).symm
theorem InR.div (s : Sh G) : InR G x ↔ 1 ≤ x / G.fl ∧ x / G.fl < G.rk - 1 := by
  unfold InR
  rw [Nat.one_le_div_iff s.f0, Nat.div_lt_iff_lt_mul s.f0, Nat.sub_mul, Nat.one_mul, ← s.zz]
theorem mir_is (s : Sh G) (x : Nat) : mirN G.fl x = G.fl * (x / G.fl) + (G.fl - 1 - x % G.fl) := by
  have e := Nat.div_add_mod x G.fl
  have l := Nat.mod_lt x s.f0
  rw [mirN_eq]
  generalize G.fl * (x / G.fl) = a at e ⊢
  generalize x % G.fl = b at e l ⊢
  clear s
  omega
theorem mir_sub (s : Sh G) (x : Nat) : G.fl - 1 - x % G.fl < G.fl := by
  have := s.f0
  clear s
  omega
theorem mir_div (s : Sh G) (x : Nat) : mirN G.fl x / G.fl = x / G.fl := by
  rw [mir_is s, Nat.mul_add_div s.f0, Nat.div_eq_of_lt (mir_sub s x), Nat.add_zero]
theorem mir_file (s : Sh G) (x : Nat) : mirN G.fl x % G.fl = G.fl - 1 - x % G.fl := by
  rw [mir_is s, Nat.mul_add_mod, Nat.mod_eq_of_lt (mir_sub s x)]
theorem mir_lt (s : Sh G) (hx : x < G.sz) : mirN G.fl x < G.sz := by
  rw [sz_div s, mir_div s]; exact (sz_div s).mp hx
theorem mir_in (s : Sh G) (hx : InR G x) : InR G (mirN G.fl x) := by
  rw [InR.div s, mir_div s]; exact (InR.div s).mp hx
theorem mir_dm (s : Sh G) (hx : InR G x) (hm : Nat.ble (x % G.fl + 1) ((G.fl + 1) / 2) = false) : Dm G (mirN G.fl x) := by
  have hm : ¬ x % G.fl + 1 ≤ (G.fl + 1) / 2 := fun q => by rw [Nat.ble_eq_true_of_le q] at hm; cases hm
  have q := mir_in s hx
  refine ⟨q.1, q.2, ?_⟩
  rw [mir_file s]
  have l := Nat.mod_lt x s.f0
  generalize x % G.fl = b at hm l ⊢
  clear q hx s
  omega
theorem fc_mirrored (F : GeoF G b h g kr pr p0) (s : Sh G) : Fc f_mirrored [.ref g, N x] h (N (mirN G.fl x)) h := by
  have bd := s.bd
  have q1 : x % G.fl ≤ x := Nat.mod_le _ _
  have q2 : x % G.fl < G.fl := Nat.mod_lt _ (by omega)
  have r1 : Ru (sset (nat_lit 2) (xbin omod (xloc (nat_lit 1)) (xattr (xloc (nat_lit 0)) (nat_lit 0)))) [.ref g, N x, .unb] h (.nx [.ref g, N x, N (x % G.fl)] h) := ru_set (Ev.ex (by (repeat' first | walk_at "kp_ev" | omega | exact F.e0 rfl))) rfl
  refine fc_fn rfl (ru_seq r1 (ru_ret (Ev.ex ?_)))
  rw [mirN_eq]
  (repeat' first | walk_at "kp_ev" | omega | exact F.e0 rfl)
theorem fc_lmir (s : Sh G) : Fc f__law_mirror [N G.fl, N x] h (N (mirN G.fl x)) h := by
  have bd := s.bd
  have q1 : x % G.fl ≤ x := Nat.mod_le _ _
  have q2 : x % G.fl < G.fl := Nat.mod_lt _ (by omega)
  refine fc_fn rfl (ru_ret (Ev.ex ?_))
  rw [mirN_eq]
  (repeat' first | walk_at "kp_ev" | omega)
theorem ev_inR {a c d : XE} {i j m : Nat} (ha : Ev a l h (N i)) (hb : Ev c l h (N j)) (hc : Ev d l h (N m)) (h1 : i ≤ j) (h2 : j < m) : Ev (xcmp2 cle clt a c d) l h (.bool true) := by
  refine ev_cmp2 ha hb hc ?_
  rw [c_le, c_lt]
  simp only [Int.ofNat_eq_natCast, Bool.and_eq_true, decide_eq_true_eq]
  omega
theorem fc_probe (F : GeoF G b h g kr pr p0) (s : Sh G) (hz : h.t.getS bb = .pk z (lenN G)) (h0 : sd ≤ 1) (h1 : st < G.sz) (h2 : InR G pw) (h3 : wk < G.sz) :
    Fc f_probe_kpk [.ref g, .ref bb, N sd, N st, N pw, N wk] h (N (tblN G z sd st pw wk)) h := by
  have bd := s.bd
  have hL := lenN_le s
  obtain ⟨w1, w2⟩ := id h2
  rw [tblN_eq]
  have ask : ∀ q, q < G.sz → Ru (sif (xnot (xcmp2 cle clt (xlit (.int (.ofNat (nat_lit 0)))) (xloc (nat_lit 6)) (xattr (xloc (nat_lit 0)) (nat_lit 2)))) sraise spass) [.ref g, .ref bb, N sd, N st, N pw, N wk, N q] h (.nx [.ref g, .ref bb, N sd, N st, N pw, N wk, N q] h) := fun q hq =>
    ru_ifF (tv_not (tv_bool (ev_inR ev_k0 (nv_loc rfl) (F.e2 rfl) (Nat.zero_le _) hq))) ru_pass
  have r1 : Ru (sfor (tvar (nat_lit 6)) (xtup (econs (xloc (nat_lit 3)) (econs (xloc (nat_lit 5)) enil)))
    (sif (xnot (xcmp2 cle clt (xlit (.int (.ofNat (nat_lit 0)))) (xloc (nat_lit 6)) (xattr (xloc (nat_lit 0)) (nat_lit 2)))) sraise spass)) [.ref g, .ref bb, N sd, N st, N pw, N wk, .unb] h (.nx [.ref g, .ref bb, N sd, N st, N pw, N wk, N wk] h) :=
    ru_tup2 (ev_tup (by (repeat' first | walk_at "kp_ev" | omega)) (by simp)) (ts_var rfl) (ask st h1) (ts_var rfl) (ask wk h3)
  have r2 : Ru (sif (xnot (xcmp2 cle clt (xattr (xloc (nat_lit 0)) (nat_lit 0)) (xloc (nat_lit 4)) (xbin osub (xattr (xloc (nat_lit 0)) (nat_lit 2)) (xattr (xloc (nat_lit 0)) (nat_lit 0))))) sraise spass) [.ref g, .ref bb, N sd, N st, N pw, N wk, N wk] h (.nx [.ref g, .ref bb, N sd, N st, N pw, N wk, N wk] h) :=
    ru_ifF (tv_not (tv_bool (ev_inR (F.e0 rfl) (nv_loc rfl) (i := G.fl) (m := G.sz - G.fl) (by (repeat' first | walk_at "kp_ev" | omega | exact F.e2 rfl | exact F.e0 rfl)) w1 w2))) ru_pass
  have c3 : Tv (xcmp cge (xbin omod (xloc (nat_lit 4)) (xattr (xloc (nat_lit 0)) (nat_lit 0))) (xcall f_pawn_files (econs (xloc (nat_lit 0)) enil))) [.ref g, .ref bb, N sd, N st, N pw, N wk, N wk] h (bnt (Nat.ble (pw % G.fl + 1) ((G.fl + 1) / 2))) := by
    (repeat' first | walk_at "kp_ev" | omega | exact F.e0 rfl | with_reducible refine ev_cl ?_ (fc_pawn_files F s))
  cases q : Nat.ble (pw % G.fl + 1) ((G.fl + 1) / 2) with
  | true =>
    rw [q] at c3
    have d : Dm G pw := ⟨w1, w2, by have := Nat.le_of_ble_eq_true q; omega⟩
    have il := idx_lt s d.1 d.2.1 d.2.2 h0 h1 h3
    exact fc_fn rfl (ru_seq r1 (ru_seq r2 (ru_seq (ru_ifF c3 ru_pass) (ru_ret (Ev.ex (ev_pk (ev_ref rfl) (ev_cl (by (repeat' first | walk_at "kp_ev" | omega)) (fc_kpk_index F s w1 (by omega) (by omega) (by omega))) hz il (by omega)))))))
  | false =>
    rw [q] at c3
    have d := mir_dm s h2 q
    have m1 := mir_lt s h1
    have m3 := mir_lt s h3
    have il := idx_lt s d.1 d.2.1 d.2.2 h0 m1 m3
    have d21 := d.2.1
    exact fc_fn rfl (ru_seq r1 (ru_seq r2 (ru_seq (ru_ifT c3 (ru_seq (ru_set (v := N (mirN G.fl st)) (Ev.ex (ev_cl (by (repeat' first | walk_at "kp_ev" | omega)) (fc_mirrored F s))) rfl) (ru_seq (ru_set (v := N (mirN G.fl pw)) (Ev.ex (ev_cl (by (repeat' first | walk_at "kp_ev" | omega)) (fc_mirrored F s))) rfl) (ru_set (v := N (mirN G.fl wk)) (Ev.ex (ev_cl (by (repeat' first | walk_at "kp_ev" | omega)) (fc_mirrored F s))) rfl))))
      (ru_ret (Ev.ex (ev_pk (ev_ref rfl) (ev_cl (by (repeat' first | walk_at "kp_ev" | omega)) (fc_kpk_index F s d.1 (by omega) (by omega) (by omega))) hz il (by omega)))))))
-- reading an item where the parts turn the heap
theorem ex_item {o i : XE} {h1 h2 : H} {n j : Nat} {xs : List V} {v : V} (ho : Ex o l h (.ref n) h1) (hi : Ex i l h1 (N j) h2) (hn : h2.t.get n = .list xs) (hx : xs[j]? = some v) (hv : v ≠ .unb) (hj : j ≤ 1000000) : Ex (xsub o i) l h v h2 := fun k => by
  show o l h _ = _
  rw [ho]
  show i l h1 _ = _
  rw [hi]
  refine (sub_so (getS h2 n) (N j) (fun v => k v h2) (fun _ kvs => asKey (N j) fun q => dfind q kvs false 0 fun _ v => k v h2) (fun _ => false)).trans ?_
  show objCase (getT h2 n) _ _ _ = _
  rw [show getT h2 n = .list xs from hn]
  show bcase (Nat.ble j 1000000) (known (getV xs j) _) false = _
  rw [Nat.ble_eq_true_of_le hj, getV_eq, hx]
  exact known_eq hv (fun v => k v h2)
theorem ex_tupI {o i : XE} {h1 : H} {j : Nat} {xs : List V} {v : V} (ho : Ex o l h (.tup xs) h1) (hi : Ev i l h1 (N j)) (hx : xs[j]? = some v) (hv : v ≠ .unb) (hj : j ≤ 1000000) : Ex (xsub o i) l h v h1 := fun k => by
  show o l h _ = _
  rw [ho]
  show i l h1 _ = _
  rw [hi]
  show bcase (Nat.ble j 1000000) (known (getV xs j) _) false = _
  rw [Nat.ble_eq_true_of_le hj, getV_eq, hx]
  exact known_eq hv (fun v => k v h1)
theorem ex_list {r : XL} {vs : List V} {h1 : H} (hr : Exs r l h vs h1) (hl : vs.length ≤ 1000000) : Ex (xlist r) l h (.ref h1.n) (h1.new (.list vs)) := fun k => by
  show r l h _ = _
  rw [hr]
  show bcase (Nat.ble (lenV vs) 1000000) (alloc (.list vs) h1 k) false = _
  rw [lenV_eq, Nat.ble_eq_true_of_le hl, bcase_t, alloc_eq]
-- the compare loop
noncomputable def k4 (s : Nat) : Nat := @Nat.rec (fun _ => Nat) (nat_lit 0) (fun m _ => @Nat.rec (fun _ => Nat) (nat_lit 4) (fun m _ => @Nat.rec (fun _ => Nat) (nat_lit 2) (fun _ _ => nat_lit 1) m) m) s
theorem k4_get (s : Nat) (hs : s ≤ 3) : ([N 0, N 4, N 2, N 1] : List V)[s]? = some (N (k4 s)) := by
  rcases s with _ | _ | _ | _ | s
  · rfl
  · rfl
  · rfl
  · rfl
  · omega
noncomputable def apartN (G : GM) (p : Pl) : Bool := bcase (bnt (Nat.beq p.st p.wk)) (bnt (memN p.wk (nbN G p.st))) false
noncomputable def tblP (G : GM) (z : Nat) (p : Pl) : Nat := tblN G z p.sd p.st p.pw p.wk
noncomputable def OnB (G : GM) (p : Pl) : Prop := p.sd ≤ 1 ∧ p.st < G.sz ∧ InR G p.pw ∧ p.wk < G.sz
noncomputable abbrev cmpB : XS := (sseq (sunpack [(nat_lit 13), (nat_lit 14), (nat_lit 15), (nat_lit 16)] (xloc (nat_lit 12)))
   (sseq (sif (xand (xcmp cne (xloc (nat_lit 14)) (xloc (nat_lit 16))) (xnotin (xloc (nat_lit 16)) (xsub (xloc (nat_lit 9)) (xloc (nat_lit 14)))))
    (sseq (sset (nat_lit 17) (xsub (xlist (econs (xlit (.int (.ofNat (nat_lit 0)))) (econs (xlit (.int (.ofNat (nat_lit 4)))) (econs (xlit (.int (.ofNat (nat_lit 2)))) (econs (xlit (.int (.ofNat (nat_lit 1)))) enil))))) (xsub (xcall f__law_after (econs (xloc (nat_lit 2)) (econs (xloc (nat_lit 3)) (econs (xlit (.bool false)) (econs (xloc (nat_lit 9)) (econs (xloc (nat_lit 13)) (econs (xloc (nat_lit 14)) (econs (xloc (nat_lit 15)) (econs (xloc (nat_lit 16)) enil))))))))) (xlit (.int (.ofNat (nat_lit 0)))))))
    (sif (xcmp cne (xcall f_first_result (econs (xloc (nat_lit 7)) (econs (xloc (nat_lit 13)) (econs (xloc (nat_lit 14)) (econs (xloc (nat_lit 15)) (econs (xloc (nat_lit 16)) enil)))))) (xloc (nat_lit 17)))
     (sret (xlit (.bool false)))
     spass))
    spass)
   (sif (xcmp cne (xcall f_probe_kpk (econs (xloc (nat_lit 7)) (econs (xloc (nat_lit 8)) (econs (xsub (xloc (nat_lit 12)) (xlit (.int (.ofNat (nat_lit 0))))) (econs (xsub (xloc (nat_lit 12)) (xlit (.int (.ofNat (nat_lit 1))))) (econs (xsub (xloc (nat_lit 12)) (xlit (.int (.ofNat (nat_lit 2))))) (econs (xsub (xloc (nat_lit 12)) (xlit (.int (.ofNat (nat_lit 3))))) enil))))))) (xsub (xloc (nat_lit 11)) (xloc (nat_lit 12))))
    (sret (xlit (.bool false)))
    spass)))
abbrev LL (G : GM) (x0 : V) (lc db : Bool) (g bb nr col rt : Nat) (t : List V) : Loc := x0 :: .ref 0 :: N G.fl :: N G.rk :: N G.sz :: .bool lc :: .bool db :: .ref g :: .ref bb :: .ref nr :: N col :: .ref rt :: t
theorem evs_place {a : XE} {p : Pl} (ha : Ev a l h (tupP p)) : Ev (xsub a (xlit (.int (.ofNat (nat_lit 0))))) l h (N p.sd) ∧ Ev (xsub a (xlit (.int (.ofNat (nat_lit 1))))) l h (N p.st) ∧ Ev (xsub a (xlit (.int (.ofNat (nat_lit 2))))) l h (N p.pw) ∧ Ev (xsub a (xlit (.int (.ofNat (nat_lit 3))))) l h (N p.wk) :=
  ⟨ev_tupN (xs := [N p.sd, N p.st, N p.pw, N p.wk]) ha ev_k0 rfl (fun z => by cases z) (by omega), ev_tupN (xs := [N p.sd, N p.st, N p.pw, N p.wk]) ha ev_k1 rfl (fun z => by cases z) (by omega),
   ev_tupN (xs := [N p.sd, N p.st, N p.pw, N p.wk]) ha ev_k2 rfl (fun z => by cases z) (by omega), ev_tupN (xs := [N p.sd, N p.st, N p.pw, N p.wk]) ha ev_k3 rfl (fun z => by cases z) (by omega)⟩
variable {nr rt col ep : Nat} {ρ : Nat → Nat} {es : Es} {lc db : Bool} {x0 x12 x13 x14 x15 x16 x17 x18 x19 x20 x21 x22 x23 x24 x25 : V} {h0 : H}
set_option maxHeartbeats 1000000 in
theorem ru_cmpB {p : Pl} (F : GeoF G b h0 g kr pr p0) (s' : Ok3 G fr) (R : RowsF G b h0 nr ρ) (hz : h0.t.getS bb = .pk z (lenN G)) (hd : h0.t.get rt = .dict ep (dk es)) (hr : h0.r ≤ h0.n) (hb : h0.n ≤ b) (hbb : bb < h0.n) (hrt : rt < h0.n) (k : Kp h0.n h0 h)
    (hp : OnB G p) (h1 : apartN G p = true → firstN G p.sd p.st p.pw p.wk = k4 (aftP G false p).1) (h2 : getP p es = some (N (tblP G z p))) :
    ∃ h' y13 y14 y15 y16 y17, Ru cmpB (LL G x0 lc db g bb nr col rt [tupP p, x13, x14, x15, x16, x17, x18, x19, x20, x21, x22, x23, x24, x25]) h (.nx (LL G x0 lc db g bb nr col rt [tupP p, y13, y14, y15, y16, y17, x18, x19, x20, x21, x22, x23, x24, x25]) h') ∧ Kp h0.n h0 h' := by
  have bd := s'.bd
  obtain ⟨p1, p2, p3, p4⟩ := hp
  have kn := k.1
  have kk : Kp b h0 h := k.wk (Nat.le_refl _)
  have F1 := F.kp kk
  have R1 := R.kp kk
  have hr1 : h.r ≤ h.n := by rw [k.2.1]; omega
  have hz1 : h.t.getS bb = .pk z (lenN G) := (k.2.2 _ hbb (by omega)).trans hz
  have hd1 : h.t.get rt = .dict ep (dk es) := (k.get hrt (by omega)).trans hd
  have r0 : Ru (sunpack [(nat_lit 13), (nat_lit 14), (nat_lit 15), (nat_lit 16)] (xloc (nat_lit 12))) (LL G x0 lc db g bb nr col rt [tupP p, x13, x14, x15, x16, x17, x18, x19, x20, x21, x22, x23, x24, x25]) h
    (.nx (LL G x0 lc db g bb nr col rt [tupP p, N p.sd, N p.st, N p.pw, N p.wk, x17, x18, x19, x20, x21, x22, x23, x24, x25]) h) := ru_unpack (ev_pl rfl).ex (fun _ => rfl)
  have c1 : Tv (xand (xcmp cne (xloc (nat_lit 14)) (xloc (nat_lit 16))) (xnotin (xloc (nat_lit 16)) (xsub (xloc (nat_lit 9)) (xloc (nat_lit 14))))) (LL G x0 lc db g bb nr col rt [tupP p, N p.sd, N p.st, N p.pw, N p.wk, x17, x18, x19, x20, x21, x22, x23, x24, x25]) h (apartN G p) := by
    unfold apartN
    (repeat' first | walk_at "kp_ev" | omega | exact R1.ei s'.toSh (nv_loc rfl) (ev_ref rfl) (nv_loc rfl) p2)
  -- the last test, wherever the heap stands
  have last : ∀ (h' : H) (y17 : V), Kp h0.n h0 h' → Ru (sif (xcmp cne (xcall f_probe_kpk (econs (xloc (nat_lit 7)) (econs (xloc (nat_lit 8)) (econs (xsub (xloc (nat_lit 12)) (xlit (.int (.ofNat (nat_lit 0))))) (econs (xsub (xloc (nat_lit 12)) (xlit (.int (.ofNat (nat_lit 1))))) (econs (xsub (xloc (nat_lit 12)) (xlit (.int (.ofNat (nat_lit 2))))) (econs (xsub (xloc (nat_lit 12)) (xlit (.int (.ofNat (nat_lit 3))))) enil))))))) (xsub (xloc (nat_lit 11)) (xloc (nat_lit 12))))
      (sret (xlit (.bool false))) spass) (LL G x0 lc db g bb nr col rt [tupP p, N p.sd, N p.st, N p.pw, N p.wk, y17, x18, x19, x20, x21, x22, x23, x24, x25]) h'
      (.nx (LL G x0 lc db g bb nr col rt [tupP p, N p.sd, N p.st, N p.pw, N p.wk, y17, x18, x19, x20, x21, x22, x23, x24, x25]) h') := fun h' y17 k' => by
    have kk' : Kp b h0 h' := k'.wk (Nat.le_refl _)
    have pr := fc_probe (F.kp kk') s'.toSh ((k'.2.2 _ hbb (by omega)).trans hz) p1 p2 p3 p4
    obtain ⟨e0, e1, e2, e3⟩ := evs_place (a := xloc 12) (p := p) (l := LL G x0 lc db g bb nr col rt [tupP p, N p.sd, N p.st, N p.pw, N p.wk, y17, x18, x19, x20, x21, x22, x23, x24, x25]) (h := h') (ev_pl rfl)
    have c : Tv (xcmp cne (xcall f_probe_kpk (econs (xloc (nat_lit 7)) (econs (xloc (nat_lit 8)) (econs (xsub (xloc (nat_lit 12)) (xlit (.int (.ofNat (nat_lit 0))))) (econs (xsub (xloc (nat_lit 12)) (xlit (.int (.ofNat (nat_lit 1))))) (econs (xsub (xloc (nat_lit 12)) (xlit (.int (.ofNat (nat_lit 2))))) (econs (xsub (xloc (nat_lit 12)) (xlit (.int (.ofNat (nat_lit 3))))) enil))))))) (xsub (xloc (nat_lit 11)) (xloc (nat_lit 12)))) (LL G x0 lc db g bb nr col rt [tupP p, N p.sd, N p.st, N p.pw, N p.wk, y17, x18, x19, x20, x21, x22, x23, x24, x25]) h' (bnt (Nat.beq (tblP G z p) (tblP G z p))) :=
      tv_bool (ev_cne (ev_cl (evs_cons (ev_ref rfl) (evs_cons (ev_ref rfl) (evs_cons e0 (evs_cons e1 (evs_cons e2 (evs_cons e3 evs_nil)))))) pr) (ev_subD (ev_ref rfl) (ev_pl rfl) ((k'.get hrt (by omega)).trans hd) h2))
    rw [Nat.beq_refl] at c
    exact ru_ifF c ru_pass
  cases q : apartN G p with
  | false =>
    rw [q] at c1
    exact ⟨h, _, _, _, _, _, ru_seq r0 (ru_seq (ru_ifF c1 ru_pass) (last h x17 k)), k⟩
  | true =>
    rw [q] at c1
    let hn := h.new (.list [N 0, N 4, N 2, N 1])
    have kn : Kp h.n h hn := Kp.new _ _ _
    obtain ⟨v, h2', q1, oo, rfl, q2, q3, q4, q5⟩ := fc_after (db := false) (sd := p.sd) ((R1.kp (kn.wk (b := b) (Nat.le_refl _))).to (Nat.le_refl _)) s' (show hn.r ≤ hn.n by show h.r ≤ h.n + 1; omega) p2 p3.1 p4
    have al := aft_le (G := G) s'.nbl (db := false) (sd := p.sd) (pw := p.pw) p2 p4
    have e17 : Ex (xsub (xlist (econs (xlit (.int (.ofNat (nat_lit 0)))) (econs (xlit (.int (.ofNat (nat_lit 4)))) (econs (xlit (.int (.ofNat (nat_lit 2)))) (econs (xlit (.int (.ofNat (nat_lit 1)))) enil))))) (xsub (xcall f__law_after (econs (xloc (nat_lit 2)) (econs (xloc (nat_lit 3)) (econs (xlit (.bool false)) (econs (xloc (nat_lit 9)) (econs (xloc (nat_lit 13)) (econs (xloc (nat_lit 14)) (econs (xloc (nat_lit 15)) (econs (xloc (nat_lit 16)) enil))))))))) (xlit (.int (.ofNat (nat_lit 0))))))
      (LL G x0 lc db g bb nr col rt [tupP p, N p.sd, N p.st, N p.pw, N p.wk, x17, x18, x19, x20, x21, x22, x23, x24, x25]) h (N (k4 (aftP G false p).1)) h2' :=
      ex_item (ex_list (vs := [N 0, N 4, N 2, N 1]) (exs_cons ev_k0.ex (exs_cons ev_k4.ex (exs_cons ev_k2.ex (exs_cons ev_k1.ex exs_nil)))) (by simp))
        (ex_tupI (ev_fc (by (repeat' first | walk_at "kp_ev" | omega)) q1) ev_k0 rfl (fun z => by cases z) (by omega)) ((q2.get (Nat.lt_succ_self h.n) (by show h.n ≠ h.n + 1; omega)).trans (by show SO.view _ = _; rw [new_getS, if_pos rfl]; rfl)) (k4_get _ al.1) (fun z => by cases z) (by have := al.1; omega)
    have k2 : Kp h0.n h0 h2' := (k.trans kn (.inr (by omega))).trans q2 (.inr (by show h0.n ≤ h.n + 1; omega))
    have F2 := F.kp (k2.wk (b := b) (Nat.le_refl _))
    have c2 : Tv (xcmp cne (xcall f_first_result (econs (xloc (nat_lit 7)) (econs (xloc (nat_lit 13)) (econs (xloc (nat_lit 14)) (econs (xloc (nat_lit 15)) (econs (xloc (nat_lit 16)) enil)))))) (xloc (nat_lit 17))) (LL G x0 lc db g bb nr col rt [tupP p, N p.sd, N p.st, N p.pw, N p.wk, N (k4 (aftP G false p).1), x18, x19, x20, x21, x22, x23, x24, x25]) h2' (bnt (Nat.beq (firstN G p.sd p.st p.pw p.wk) (k4 (aftP G false p).1))) := by
      have ff := fc_first (sd := p.sd) F2 s'.toSh p2 (Nat.lt_of_lt_of_le p3.2 (Nat.sub_le _ _)) p4
      (repeat' first | walk_at "kp_ev" | omega | with_reducible refine ev_cl ?_ ff)
    rw [h1 q, Nat.beq_refl] at c2
    exact ⟨h2', _, _, _, _, _, ru_seq r0 (ru_seq (ru_ifT c1 (ru_seq (ru_set e17 rfl) (ru_ifF c2 ru_pass))) (last h2' _ k2)), k2⟩
theorem ru_cmp (F : GeoF G b h0 g kr pr p0) (s' : Ok3 G fr) (R : RowsF G b h0 nr ρ) (hz : h0.t.getS bb = .pk z (lenN G)) (hd : h0.t.get rt = .dict ep (dk es)) (hr : h0.r ≤ h0.n) (hb : h0.n ≤ b) (hbb : bb < h0.n) (hrt : rt < h0.n)
    (hall : ∀ q ∈ es, OnB G q.1 ∧ (apartN G q.1 = true → firstN G q.1.sd q.1.st q.1.pw q.1.wk = k4 (aftP G false q.1).1) ∧ getP q.1 es = some (N (tblP G z q.1))) :
    ∃ h' y12 y13 y14 y15 y16 y17, Ru (sfor (tvar (nat_lit 12)) (xloc (nat_lit 11)) cmpB) (LL G x0 lc db g bb nr col rt [x12, x13, x14, x15, x16, x17, x18, x19, x20, x21, x22, x23, x24, x25]) h0 (.nx (LL G x0 lc db g bb nr col rt [y12, y13, y14, y15, y16, y17, x18, x19, x20, x21, x22, x23, x24, x25]) h') ∧ Kp h0.n h0 h' := by
  have lq := ru_dict (t := tvar 12) (n := rt) (ep := ep) (es := es) (c := xloc 11) (h := h0) (s := cmpB) (l := LL G x0 lc db g bb nr col rt [x12, x13, x14, x15, x16, x17, x18, x19, x20, x21, x22, x23, x24, x25])
    (I := fun j l h' => Kp h0.n h0 h' ∧ ∃ x12 x13 x14 x15 x16 x17, l = LL G x0 lc db g bb nr col rt [x12, x13, x14, x15, x16, x17, x18, x19, x20, x21, x22, x23, x24, x25])
    (ev_ref rfl) (fun j l h' x => (x.1.get hrt (by omega)).trans hd) ⟨Kp.refl _ _, _, _, _, _, _, _, rfl⟩ (fun j l h' hj x => by
      obtain ⟨k, x12, x13, x14, x15, x16, x17, rfl⟩ := x
      obtain ⟨a1, a2, a3⟩ := hall es[j] (List.getElem_mem hj)
      obtain ⟨h2, y13, y14, y15, y16, y17, r, k2⟩ := ru_cmpB (x0 := x0) (lc := lc) (db := db) (col := col) (x13 := x13) (x14 := x14) (x15 := x15) (x16 := x16) (x17 := x17) (x18 := x18) (x19 := x19) (x20 := x20) (x21 := x21) (x22 := x22) (x23 := x23) (x24 := x24) (x25 := x25) F s' R hz hd hr hb hbb hrt k a1 a2 a3
      exact ⟨_, _, h2, ts_var rfl, r, k2, _, _, _, _, _, _, rfl⟩)
  obtain ⟨l', h', ⟨k, y12, y13, y14, y15, y16, y17, rfl⟩, lq⟩ := lq
  exact ⟨h', y12, y13, y14, y15, y16, y17, lq, k⟩
end
-- part Sy14
-- Sy14: a drawn placing (own work)
theorem veq_nat (n : Nat) : veq (N n) (N n) = true := Nat.beq_refl n
theorem veq_ref (n : Nat) : veq (.ref n) (.ref n) = true := Nat.beq_refl n
theorem veq_bool (b : Bool) : veq (.bool b) (.bool b) = true := by cases b <;> rfl
theorem same_self : ∀ (xs t t' : List V), (∀ x ∈ xs, veq x x = true) → same (xs ++ t) xs.length (xs ++ t') = true
  | [], t, t', _ => by cases t <;> rfl
  | x :: xs, t, t', h => by
    show bcase (veq x x) (same (xs ++ t) xs.length (xs ++ t')) false = true
    rw [h x (.head _), same_self xs t t' fun y hy => h y (.tail _ hy)]; rfl
section
variable {G : GM} {fr : List (List Nat)} {b : Nat} {h : H} {g kr pr p0 bb z nr rt col ep : Nat} {ρ : Nat → Nat} {es : Es} {lc db : Bool} {h0 : H} {l : Loc} {x0 x12 x13 x14 x15 x16 x17 x18 x19 x20 x21 x22 x23 x24 x25 : V}
theorem same_LL (hx : veq x0 x0 = true) (t t' : List V) : same (LL G x0 lc db g bb nr col rt t) 12 (LL G x0 lc db g bb nr col rt t') = true :=
  same_self [x0, .ref 0, N G.fl, N G.rk, N G.sz, .bool lc, .bool db, .ref g, .ref bb, .ref nr, N col, .ref rt] t t' (by
    intro x hx'
    simp only [List.mem_cons, List.not_mem_nil, or_false] at hx'
    rcases hx' with rfl | rfl | rfl | rfl | rfl | rfl | rfl | rfl | rfl | rfl | rfl | rfl
    · exact hx
    · rfl
    · exact veq_nat _
    · exact veq_nat _
    · exact veq_nat _
    · exact veq_bool _
    · exact veq_bool _
    · exact veq_ref _
    · exact veq_ref _
    · exact veq_ref _
    · exact veq_nat _
    · exact veq_ref _)
-- where the successors stand
theorem InR.ahead {pw : Nat} (s : Sh G) (d : InR G pw) (hr : Nat.beq (pw / G.fl) (G.rk - 2) = false) : InR G (pw + G.fl) := by
  have hr : ¬ pw / G.fl = G.rk - 2 := fun q => by rw [q, Nat.beq_refl] at hr; cases hr
  rw [InR.div s] at d ⊢
  rw [Nat.add_div_right _ s.f0]
  generalize pw / G.fl = q at d hr ⊢
  clear s
  (first | lia | omega)
theorem InR.ahead2 {pw : Nat} (s : Sh G) (d : InR G pw) (hd : G.rk = 5) (hr : Nat.beq (pw / G.fl) 1 = true) : InR G (pw + G.fl + G.fl) := by
  rw [InR.div s, Nat.add_div_right _ s.f0, Nat.add_div_right _ s.f0, Nat.eq_of_beq_eq_true hr, hd]
  exact ⟨by decide, by decide⟩
theorem wKing_mem {pw wk : Nat} (hp : InR G pw) (hk : wk < G.sz) : ∀ xs : List Nat, (∀ x ∈ xs, x < G.sz) → ∀ q ∈ wKing G pw wk xs, OnB G q
  | [], _, q, hq => by cases hq
  | x :: xs, hx, q, hq => by
    rw [wKing_cons] at hq
    cases c : bcase (bnt (Nat.beq x pw)) (bnt (memN x (nbN G wk))) false with
    | true =>
      rw [c, cond_true] at hq
      rcases List.mem_cons.mp hq with rfl | hq
      · exact ⟨Nat.le_refl _, hx x (.head _), hp, hk⟩
      · exact wKing_mem hp hk xs (fun y hy => hx y (.tail _ hy)) q hq
    | false =>
      rw [c, cond_false] at hq
      exact wKing_mem hp hk xs (fun y hy => hx y (.tail _ hy)) q hq
theorem bKing_mem {st pw : Nat} (hp : InR G pw) (hs : st < G.sz) : ∀ xs : List Nat, (∀ x ∈ xs, x < G.sz) → ∀ q ∈ bKing G st pw xs, OnB G q
  | [], _, q, hq => by cases hq
  | x :: xs, hx, q, hq => by
    rw [bKing_cons] at hq
    cases c : bOk G st pw x with
    | true =>
      rw [c, cond_true] at hq
      rcases List.mem_cons.mp hq with rfl | hq
      · exact ⟨Nat.zero_le _, hs, hp, hx x (.head _)⟩
      · exact bKing_mem hp hs xs (fun y hy => hx y (.tail _ hy)) q hq
    | false =>
      rw [c, cond_false] at hq
      exact bKing_mem hp hs xs (fun y hy => hx y (.tail _ hy)) q hq
theorem aft_mem (s : Ok G) {p : Pl} (hp : OnB G p) (hd : db = true → G.rk = 5) : ∀ q ∈ (aftP G db p).2, OnB G q := by
  obtain ⟨h1, h2, h3, h4⟩ := hp
  have W := wKing_mem h3 h4 (nbN G p.st) (s.nb p.st h2)
  have B := bKing_mem h3 h2 (nbN G p.wk) (s.nb p.wk h4)
  have key : ∀ (b : Bool) (x y : Nat × List Pl), (b = true → ∀ q ∈ x.2, OnB G q) → (b = false → ∀ q ∈ y.2, OnB G q) → ∀ q ∈ (pcase b x y).2, OnB G q := fun b x y hx hy => by
    cases b
    · exact hy rfl
    · exact hx rfl
  have key2 : ∀ (b : Bool) (x y : List Pl), (b = true → ∀ q ∈ x, OnB G q) → (b = false → ∀ q ∈ y, OnB G q) → ∀ q ∈ pcase b x y, OnB G q := fun b x y hx hy => by
    cases b
    · exact hy rfl
    · exact hx rfl
  have no : ∀ q ∈ ([] : List Pl), OnB G q := fun q hq => by cases hq
  show ∀ q ∈ (aftN G db p.sd p.st p.pw p.wk).2, OnB G q
  rw [aftN_eq]
  refine key _ _ _ (fun _ => no) fun _ => key _ _ _ (fun _ => ?_) fun _ => ?_
  · rw [aftW_eq]
    refine key _ _ _ (fun _ => no) fun _ => key _ _ _ (fun _ => key _ _ _ (fun _ => key _ _ _ (fun _ => no) fun _ => W) fun c => ?_) fun _ => W
    intro q hq
    rcases List.mem_cons.mp hq with rfl | hq
    · exact ⟨Nat.le_refl _, h2, h3.ahead s.toSh c, h4⟩
    · refine key2 _ _ _ (fun c2 q hq => ?_) (fun _ => W) q hq
      rcases List.mem_cons.mp hq with rfl | hq
      · obtain ⟨d1, d2⟩ := bc_of c2
        obtain ⟨d2, -⟩ := bc_of d2
        exact ⟨Nat.le_refl _, h2, h3.ahead2 s.toSh (hd d1) d2, h4⟩
      · exact W q hq
  · unfold aftB
    exact key _ _ _ (fun _ => no) fun _ => key _ _ _ (fun _ => no) fun _ => B
noncomputable def cntT (G : GM) (z : Nat) (out : List Pl) : Nat := out.foldl (fun n q => bif Nat.beq (tblP G z q) 4 then n + 1 else n) 0
noncomputable def wantN (sort sd known count : Nat) : Nat :=
  ncase (bcase (Nat.beq sort (nat_lit 1)) true (bcase (Nat.beq sort (nat_lit 3)) (wonN sd known count) false)) (nat_lit 4) (ncase (Nat.beq sort (nat_lit 0)) (nat_lit 0) (nat_lit 2))
theorem wantN_eq (sort sd known count : Nat) : wantN sort sd known count = ncase (bcase (Nat.beq sort 1) true (bcase (Nat.beq sort 3) (wonN sd known count) false)) 4 (ncase (Nat.beq sort 0) 0 2) := rfl
noncomputable def mirP (G : GM) (p : Pl) : Pl := ⟨p.sd, mirN G.fl p.st, mirN G.fl p.pw, mirN G.fl p.wk⟩
-- what one asks: the shapes with a whole base; 2 by 5
noncomputable def rightP (G : GM) (col : Nat) (p : Pl) : Pl := bif bnt (Nat.beq (p.pw % G.fl) col) then mirP G p else p
theorem ru_Q (F : GeoF G b h g kr pr p0) (s' : Sh G) (hz : h.t.getS bb = .pk z (lenN G)) {p : Pl} (hp : OnB G p) {o : Out}
    (r : Ru b_loop_13 (LL G x0 lc db g bb nr col rt [x12, N p.sd, N p.st, N p.pw, N p.wk, x17, x18, x19, x20, N (tblP G z p), x22, x23, x24, x25]) h o) :
    Ru b_Q (LL G x0 lc db g bb nr col rt [x12, N p.sd, N p.st, N p.pw, N p.wk, x17, x18, x19, x20, x21, x22, x23, x24, x25]) h o := by
  obtain ⟨h1, h2, h3, h4⟩ := hp
  exact ru_seq (ru_set (Ev.ex (ev_cl (by (repeat' first | walk_at "kp_ev" | (first | lia | omega))) (fc_probe F s' hz h1 h2 h3 h4))) rfl) r
theorem ru_small (s' : Sh G) {p : Pl} {T : Nat} (hd : h.t.get rt = .dict ep (dk es)) (hg : getP (rightP G col p) es = some (N T)) :
    ∃ t', Ru b_loop_13 (LL G x0 false db g bb nr col rt [x12, N p.sd, N p.st, N p.pw, N p.wk, x17, x18, x19, x20, N T, x22, x23, x24, x25]) h (.nx (LL G x0 false db g bb nr col rt t') h) := by
  have bd := s'.bd
  have c0 : Tv (xnot (xloc (nat_lit 5))) (LL G x0 false db g bb nr col rt [x12, N p.sd, N p.st, N p.pw, N p.wk, x17, x18, x19, x20, N T, x22, x23, x24, x25]) h (bnt false) := by (repeat' first | walk_at "kp_ev" | (first | lia | omega))
  have c1 : Tv (xcmp cne (xbin omod (xloc (nat_lit 15)) (xloc (nat_lit 2))) (xloc (nat_lit 10))) (LL G x0 false db g bb nr col rt [x12, N p.sd, N p.st, N p.pw, N p.wk, x17, x18, x19, x20, N T, x22, x23, x24, x25]) h (bnt (Nat.beq (p.pw % G.fl) col)) := by (repeat' first | walk_at "kp_ev" | (first | lia | omega))
  have last : ∀ q : Pl, getP q es = some (N T) → Ru (sif (xcmp cne (xloc (nat_lit 21)) (xsub (xloc (nat_lit 11)) (xtup (econs (xloc (nat_lit 13)) (econs (xloc (nat_lit 14)) (econs (xloc (nat_lit 15)) (econs (xloc (nat_lit 16)) enil))))))) (sret (xlit (.bool false))) spass)
      (LL G x0 false db g bb nr col rt [x12, N q.sd, N q.st, N q.pw, N q.wk, x17, x18, x19, x20, N T, x22, x23, x24, x25]) h (.nx (LL G x0 false db g bb nr col rt [x12, N q.sd, N q.st, N q.pw, N q.wk, x17, x18, x19, x20, N T, x22, x23, x24, x25]) h) := fun q hq => by
    have c : Tv (xcmp cne (xloc (nat_lit 21)) (xsub (xloc (nat_lit 11)) (xtup (econs (xloc (nat_lit 13)) (econs (xloc (nat_lit 14)) (econs (xloc (nat_lit 15)) (econs (xloc (nat_lit 16)) enil))))))) (LL G x0 false db g bb nr col rt [x12, N q.sd, N q.st, N q.pw, N q.wk, x17, x18, x19, x20, N T, x22, x23, x24, x25]) h (bnt (Nat.beq T T)) :=
      tv_bool (ev_cne (nv_loc rfl) (ev_subD (p := q) (ev_ref rfl) (ev_tup (by (repeat' first | walk_at "kp_ev" | (first | lia | omega))) (by simp)) hd hq))
    rw [Nat.beq_refl] at c
    exact ru_ifF c ru_pass
  unfold rightP at hg
  cases q : Nat.beq (p.pw % G.fl) col with
  | true =>
    rw [q] at c1 hg
    exact ⟨_, ru_ifT c0 (ru_seq (ru_ifF c1 ru_pass) (last p hg))⟩
  | false =>
    rw [q] at c1 hg
    exact ⟨_, ru_ifT c0 (ru_seq (ru_ifT c1 (ru_seq (ru_set (v := N (mirN G.fl p.st)) (Ev.ex (ev_cl (by (repeat' first | walk_at "kp_ev" | (first | lia | omega))) (fc_lmir s'))) rfl) (ru_seq (ru_set (v := N (mirN G.fl p.pw)) (Ev.ex (ev_cl (by (repeat' first | walk_at "kp_ev" | (first | lia | omega))) (fc_lmir s'))) rfl) (ru_set (v := N (mirN G.fl p.wk)) (Ev.ex (ev_cl (by (repeat' first | walk_at "kp_ev" | (first | lia | omega))) (fc_lmir s'))) rfl)))) (last (mirP G p) hg))⟩
set_option maxHeartbeats 1000000 in
theorem ru_local (F : GeoF G b h g kr pr p0) (s' : Ok3 G fr) (R : RowsF G b h nr ρ) (hz : h.t.getS bb = .pk z (lenN G)) (hb : h.n ≤ b) (hbb : bb < h.n) (hr : h.r ≤ h.n) {p : Pl} (hp : OnB G p) (hdb : db = true → G.rk = 5)
    (hw : tblP G z p = wantN (aftP G db p).1 p.sd (cntT G z (aftP G db p).2) (aftP G db p).2.length) :
    ∃ t' h', Ru b_loop_13 (LL G x0 true db g bb nr col rt [x12, N p.sd, N p.st, N p.pw, N p.wk, x17, x18, x19, x20, N (tblP G z p), x22, x23, x24, x25]) h (.nx (LL G x0 true db g bb nr col rt t') h') := by
  have bd := s'.bd
  have mem := aft_mem s'.toOk hp hdb
  obtain ⟨h1, h2, h3, h4⟩ := hp
  have c0 : Tv (xnot (xloc (nat_lit 5))) (LL G x0 true db g bb nr col rt [x12, N p.sd, N p.st, N p.pw, N p.wk, x17, x18, x19, x20, N (tblP G z p), x22, x23, x24, x25]) h (bnt true) := by (repeat' first | walk_at "kp_ev" | (first | lia | omega))
  obtain ⟨v, ha, q1, oo, rfl, q2, q3, q4, q5⟩ := fc_after (db := db) (sd := p.sd) (R.to (Nat.le_refl _)) s' hr h2 h3.1 h4
  have al := aft_le (G := G) s'.nbl (db := db) (sd := p.sd) (pw := p.pw) h2 h4
  have er : aftN G db p.sd p.st p.pw p.wk = aftP G db p := rfl
  rw [er] at q5 al q1
  have r1 : Ru (sunpack [(nat_lit 22), (nat_lit 23)] (xcall f__law_after (econs (xloc (nat_lit 2)) (econs (xloc (nat_lit 3)) (econs (xloc (nat_lit 6)) (econs (xloc (nat_lit 9)) (econs (xloc (nat_lit 13)) (econs (xloc (nat_lit 14)) (econs (xloc (nat_lit 15)) (econs (xloc (nat_lit 16)) enil)))))))))) (LL G x0 true db g bb nr col rt [x12, N p.sd, N p.st, N p.pw, N p.wk, x17, x18, x19, x20, N (tblP G z p), x22, x23, x24, x25]) h
    (.nx (LL G x0 true db g bb nr col rt [x12, N p.sd, N p.st, N p.pw, N p.wk, x17, x18, x19, x20, N (tblP G z p), N (aftP G db p).1, .ref oo, x24, x25]) ha) := ru_unpack (ev_fc (by (repeat' first | walk_at "kp_ev" | (first | lia | omega))) q1) (fun _ => rfl)
  have Fa := F.kp (q2.wk (b := b) (Nat.le_refl _))
  have za : ha.t.getS bb = .pk z (lenN G) := (q2.2.2 _ hbb (by (first | lia | omega))).trans hz
  have lp := ru_list (t := tvar 24) (n := oo) (xs := (aftP G db p).2.map tupP) (c := xloc 23) (h := ha) (l := LL G x0 true db g bb nr col rt [x12, N p.sd, N p.st, N p.pw, N p.wk, N 0, x18, x19, x20, N (tblP G z p), N (aftP G db p).1, .ref oo, x24, x25])
    (a := (sif (xcmp ceq (xcall f_probe_kpk (econs (xloc (nat_lit 7)) (econs (xloc (nat_lit 8)) (econs (xsub (xloc (nat_lit 24)) (xlit (.int (.ofNat (nat_lit 0))))) (econs (xsub (xloc (nat_lit 24)) (xlit (.int (.ofNat (nat_lit 1))))) (econs (xsub (xloc (nat_lit 24)) (xlit (.int (.ofNat (nat_lit 2))))) (econs (xsub (xloc (nat_lit 24)) (xlit (.int (.ofNat (nat_lit 3))))) enil))))))) (xlit (.int (.ofNat (nat_lit 4)))))
      (saug (nat_lit 17) oadd (xlit (.int (.ofNat (nat_lit 1))))) spass))
    (I := fun i l h' => h' = ha ∧ ∃ x24 m, l = LL G x0 true db g bb nr col rt [x12, N p.sd, N p.st, N p.pw, N p.wk, N m, x18, x19, x20, N (tblP G z p), N (aftP G db p).1, .ref oo, x24, x25] ∧ ((aftP G db p).2.drop i).foldl (fun n q => bif Nat.beq (tblP G z q) 4 then n + 1 else n) m = cntT G z (aftP G db p).2)
    (ev_ref rfl) (fun i l h' x => by rw [x.1]; exact q5) ⟨rfl, x24, 0, rfl, rfl⟩ (fun i l h' hi x => by
      obtain ⟨rfl, x24, m, rfl, e⟩ := x
      obtain ⟨hj, ej⟩ := pl_get hi
      rw [ej]
      rw [foldl_drop _ (aftP G db p).2 hj] at e
      obtain ⟨m1, m2, m3, m4⟩ := mem (aftP G db p).2[i] (List.getElem_mem hj)
      obtain ⟨e0, e1, e2, e3⟩ := evs_place (a := xloc 24) (p := (aftP G db p).2[i]) (l := LL G x0 true db g bb nr col rt [x12, N p.sd, N p.st, N p.pw, N p.wk, N m, x18, x19, x20, N (tblP G z p), N (aftP G db p).1, .ref oo, tupP (aftP G db p).2[i], x25]) (h := h') (ev_pl rfl)
      have c := tv_bool (ev_ceq (ev_cl (evs_cons (ev_ref (i := 7) rfl) (evs_cons (ev_ref (i := 8) rfl) (evs_cons e0 (evs_cons e1 (evs_cons e2 (evs_cons e3 evs_nil)))))) (fc_probe Fa s'.toSh za m1 m2 m3 m4)) ev_k4)
      have et : tblN G z (aftP G db p).2[i].sd (aftP G db p).2[i].st (aftP G db p).2[i].pw (aftP G db p).2[i].wk = tblP G z (aftP G db p).2[i] := rfl
      rw [et] at c
      cases q : Nat.beq (tblP G z (aftP G db p).2[i]) 4 with
      | true =>
        rw [q] at c
        rw [q, cond_true] at e
        exact ⟨_, _, _, ts_var rfl, ru_ifT c (ru_aug (i := m) rfl ev_k1 n_add rfl), rfl, _, _, rfl, e⟩
      | false =>
        rw [q] at c
        rw [q, cond_false] at e
        exact ⟨_, _, _, ts_var rfl, ru_ifF c ru_pass, rfl, _, _, rfl, e⟩)
  obtain ⟨l', h', ⟨rfl, y24, m, rfl, e⟩, lp⟩ := lp
  rw [List.drop_eq_nil_of_le (by simp)] at e
  have e : m = cntT G z (aftP G db p).2 := e
  subst e
  have el := ev_lenL (l := LL G x0 true db g bb nr col rt [x12, N p.sd, N p.st, N p.pw, N p.wk, N (cntT G z (aftP G db p).2), x18, x19, x20, N (tblP G z p), N (aftP G db p).1, .ref oo, y24, N (ncase (Nat.beq (aftP G db p).1 0) 0 2)]) (a := xloc 23) (ev_ref rfl) q5 (by rw [List.length_map]; (first | lia | omega))
  rw [List.length_map] at el
  have c2 : Tv (xcmp ceq (xloc (nat_lit 22)) (xlit (.int (.ofNat (nat_lit 0))))) (LL G x0 true db g bb nr col rt [x12, N p.sd, N p.st, N p.pw, N p.wk, N (cntT G z (aftP G db p).2), x18, x19, x20, N (tblP G z p), N (aftP G db p).1, .ref oo, y24, N 2]) h' (Nat.beq (aftP G db p).1 0) := by (repeat' first | walk_at "kp_ev" | (first | lia | omega))
  have r5 : Ru (sif (xcmp ceq (xloc (nat_lit 22)) (xlit (.int (.ofNat (nat_lit 0))))) (sset (nat_lit 25) (xlit (.int (.ofNat (nat_lit 0))))) spass) (LL G x0 true db g bb nr col rt [x12, N p.sd, N p.st, N p.pw, N p.wk, N (cntT G z (aftP G db p).2), x18, x19, x20, N (tblP G z p), N (aftP G db p).1, .ref oo, y24, N 2]) h'
    (.nx (LL G x0 true db g bb nr col rt [x12, N p.sd, N p.st, N p.pw, N p.wk, N (cntT G z (aftP G db p).2), x18, x19, x20, N (tblP G z p), N (aftP G db p).1, .ref oo, y24, N (ncase (Nat.beq (aftP G db p).1 0) 0 2)]) h') := by
    cases q : Nat.beq (aftP G db p).1 0 with
    | true => rw [q] at c2; exact ru_ifT c2 (ru_set ev_k0.ex rfl)
    | false => rw [q] at c2; exact ru_ifF c2 ru_pass
  have c3 : Tv (xor (xcmp ceq (xloc (nat_lit 22)) (xlit (.int (.ofNat (nat_lit 1))))) (xand (xcmp ceq (xloc (nat_lit 22)) (xlit (.int (.ofNat (nat_lit 3))))) (xcall f__law_is_won (econs (xloc (nat_lit 13)) (econs (xloc (nat_lit 17)) (econs (xlen (xloc (nat_lit 23))) enil))))))
    (LL G x0 true db g bb nr col rt [x12, N p.sd, N p.st, N p.pw, N p.wk, N (cntT G z (aftP G db p).2), x18, x19, x20, N (tblP G z p), N (aftP G db p).1, .ref oo, y24, N (ncase (Nat.beq (aftP G db p).1 0) 0 2)]) h'
    (bcase (Nat.beq (aftP G db p).1 1) true (bcase (Nat.beq (aftP G db p).1 3) (wonN p.sd (cntT G z (aftP G db p).2) (aftP G db p).2.length) false)) := by
    (repeat' first | walk_at "kp_ev" | (first | lia | omega) | with_reducible refine ev_cl ?_ (fc_won _ _ _) | exact el)
  have r6 : Ru (sif (xor (xcmp ceq (xloc (nat_lit 22)) (xlit (.int (.ofNat (nat_lit 1))))) (xand (xcmp ceq (xloc (nat_lit 22)) (xlit (.int (.ofNat (nat_lit 3))))) (xcall f__law_is_won (econs (xloc (nat_lit 13)) (econs (xloc (nat_lit 17)) (econs (xlen (xloc (nat_lit 23))) enil))))))
      (sset (nat_lit 25) (xlit (.int (.ofNat (nat_lit 4))))) spass) (LL G x0 true db g bb nr col rt [x12, N p.sd, N p.st, N p.pw, N p.wk, N (cntT G z (aftP G db p).2), x18, x19, x20, N (tblP G z p), N (aftP G db p).1, .ref oo, y24, N (ncase (Nat.beq (aftP G db p).1 0) 0 2)]) h'
    (.nx (LL G x0 true db g bb nr col rt [x12, N p.sd, N p.st, N p.pw, N p.wk, N (cntT G z (aftP G db p).2), x18, x19, x20, N (tblP G z p), N (aftP G db p).1, .ref oo, y24, N (tblP G z p)]) h') := by
    rw [wantN_eq] at hw
    cases q : bcase (Nat.beq (aftP G db p).1 1) true (bcase (Nat.beq (aftP G db p).1 3) (wonN p.sd (cntT G z (aftP G db p).2) (aftP G db p).2.length) false) with
    | true =>
      rw [q] at c3 hw
      rw [hw, ncase_t] at *
      exact ru_ifT c3 (ru_set ev_k4.ex rfl)
    | false =>
      rw [q] at c3 hw
      rw [ncase_f] at hw
      rw [← hw] at *
      exact ru_ifF c3 ru_pass
  have c7 : Tv (xcmp cne (xloc (nat_lit 21)) (xloc (nat_lit 25))) (LL G x0 true db g bb nr col rt [x12, N p.sd, N p.st, N p.pw, N p.wk, N (cntT G z (aftP G db p).2), x18, x19, x20, N (tblP G z p), N (aftP G db p).1, .ref oo, y24, N (tblP G z p)]) h' (bnt (Nat.beq (tblP G z p) (tblP G z p))) := by (repeat' first | walk_at "kp_ev" | (first | lia | omega))
  rw [Nat.beq_refl] at c7
  exact ⟨_, h', ru_ifF c0 (ru_seq r1 (ru_seq (ru_set ev_k0.ex rfl) (ru_seq lp (ru_seq (ru_set ev_k2.ex rfl) (ru_seq r5 (ru_seq r6 (ru_ifF c7 ru_pass)))))))⟩
end
-- part Sy15
-- Sy15: the pure law of _law_solve: what right holds (own work)
noncomputable def codeP (p : Pl) : Nat := Nat.add (Nat.mul (Nat.add (Nat.mul (Nat.add (Nat.mul p.pw (nat_lit 16)) p.st) (nat_lit 16)) p.wk) (nat_lit 2)) p.sd
theorem codeP_eq (p : Pl) : codeP p = ((p.pw * 16 + p.st) * 16 + p.wk) * 2 + p.sd := rfl
noncomputable def PLs (G : GM) (col : Nat) : List Pl := (qsN G col).flatMap fun pw => (List.range G.sz).flatMap fun st => (List.range G.sz).flatMap fun wk => [⟨0, st, pw, wk⟩, ⟨1, st, pw, wk⟩]
section
variable {G : GM} {fr : List (List Nat)} {col : Nat}
theorem so5_eq : so5 G col = (PLs G col).foldl (so1 G) ([], [], []) := by
  unfold so5 PLs
  rw [List.foldl_flatMap]
  congr 1
  funext S pw
  unfold so4
  rw [List.foldl_flatMap]
  congr 1
  funext S st
  unfold so3
  rw [List.foldl_flatMap]
  rfl
theorem PLs_on (s : Sh G) (hc : col < G.fl) : ∀ p ∈ PLs G col, OnB G p ∧ p.pw % G.fl = col := by
  intro p hp
  unfold PLs at hp
  simp only [List.mem_flatMap, List.mem_range, List.mem_cons, List.not_mem_nil, or_false] at hp
  obtain ⟨pw, hpw, st, hst, wk, hwk, hp⟩ := hp
  unfold qsN at hpw
  simp only [List.mem_map, List.mem_range] at hpw
  obtain ⟨j, hj, rfl⟩ := hpw
  have bd := s.bd
  have e1 : (G.fl + col + G.fl * j) % G.fl = col := by rw [Nat.add_mul_mod_self_left, Nat.add_mod_left, Nat.mod_eq_of_lt hc]
  have e2 : (G.fl + col + G.fl * j) / G.fl = 1 + j := by rw [Nat.add_mul_div_left _ _ s.f0, Nat.add_div_left _ s.f0, Nat.div_eq_of_lt hc]
  have e3 : G.fl ≤ G.fl + col + G.fl * j ∧ G.fl + col + G.fl * j < G.sz - G.fl := by
    rw [rk_div s, e2]
    clear e1 e2 hst hwk hp bd hc s
    (first | lia | omega)
  have e := And.intro e3.2 e1
  rcases hp with rfl | rfl
  · exact ⟨⟨Nat.zero_le _, hst, e3, hwk⟩, e.2⟩
  · exact ⟨⟨Nat.le_refl _, hst, e3, hwk⟩, e.2⟩
theorem PLs_mem (s : Sh G) {p : Pl} (hp : OnB G p) (h : p.pw % G.fl = col) : p ∈ PLs G col := by
  obtain ⟨h1, h2, ⟨h3, h4⟩, h5⟩ := hp
  have bd := s.bd
  unfold PLs
  simp only [List.mem_flatMap, List.mem_range, List.mem_cons, List.not_mem_nil, or_false]
  refine ⟨p.pw, ?_, p.st, h2, p.wk, h5, ?_⟩
  · unfold qsN
    simp only [List.mem_map, List.mem_range]
    refine ⟨p.pw / G.fl - 1, ?_, ?_⟩
    · have q := (rk_div s).mp ⟨h3, h4⟩
      generalize p.pw / G.fl = d at q
      clear h1 h2 h3 h4 h5 h bd s
      (first | lia | omega)
    · have e1 := Nat.div_add_mod p.pw G.fl
      have e2 : 1 ≤ p.pw / G.fl := (Nat.one_le_div_iff (by (first | lia | omega))).mpr h3
      have e3 : G.fl * (p.pw / G.fl - 1) + G.fl = G.fl * (p.pw / G.fl) := by
        rw [← Nat.mul_succ]; congr 1; (first | lia | omega)
      (first | lia | omega)
  · cases p with
    | mk sd st pw wk =>
      have : sd = 0 ∨ sd = 1 := by have : sd ≤ 1 := h1; (first | lia | omega)
      rcases this with rfl | rfl <;> simp
-- growing codes
noncomputable def incr : Nat → List Pl → Bool
  | _, [] => true
  | m, p :: r => bcase (Nat.ble m (codeP p)) (incr (Nat.succ (codeP p)) r) false
theorem incr_of : ∀ (xs : List Pl) (m : Nat), incr m xs = true → (∀ x ∈ xs, m ≤ codeP x) ∧ xs.Pairwise (fun a b => codeP a < codeP b)
  | [], m, _ => ⟨fun x hx => by (cases hx), .nil⟩
  | p :: r, m, h => by
    obtain ⟨h1, h2⟩ := bc_of (show bcase (Nat.ble m (codeP p)) (incr (Nat.succ (codeP p)) r) false = true from h)
    have h1 := Nat.le_of_ble_eq_true h1
    obtain ⟨i1, i2⟩ := incr_of r _ h2
    refine ⟨fun x hx => ?_, .cons (fun x hx => i1 x hx) i2⟩
    rcases List.mem_cons.mp hx with rfl | hx
    · exact h1
    · have := i1 x hx; (first | lia | omega)
theorem has_false {p : Pl} : ∀ {es : Es}, (∀ q ∈ es, q.1 ≠ p) → hasP p es = false
  | [], _ => rfl
  | q :: r, h => by
    unfold hasP
    cases e : plEq q.1 p with
    | true => exact absurd (plEq_iff.mp e) (h q (.head _))
    | false => rw [cond_false]; exact has_false fun y hy => h y (.tail _ hy)
theorem has_true {p : Pl} : ∀ {es : Es}, (∃ q ∈ es, q.1 = p) → hasP p es = true
  | [], ⟨q, h, _⟩ => by cases h
  | q :: r, ⟨y, h, e⟩ => by
    unfold hasP
    cases c : plEq q.1 p with
    | true => rfl
    | false =>
      rw [cond_false]
      rcases List.mem_cons.mp h with rfl | h
      · subst e
        rw [plEq_iff.mpr rfl] at c; cases c
      · exact has_true ⟨y, h, e⟩
theorem has_mem {p : Pl} : ∀ {es : Es}, hasP p es = true → ∃ q ∈ es, q.1 = p
  | [], h => by cases h
  | q :: r, h => by
    unfold hasP at h
    cases c : plEq q.1 p with
    | true => exact ⟨q, .head _, plEq_iff.mp c⟩
    | false =>
      rw [c, cond_false] at h
      obtain ⟨y, h1, h2⟩ := has_mem h
      exact ⟨y, .tail _ h1, h2⟩
theorem get_map (f : Pl → V) {p : Pl} : ∀ {xs : List Pl}, p ∈ xs → getP p (xs.map fun q => (q, f q)) = some (f p)
  | [], h => by cases h
  | q :: r, h => by
    show (bif plEq q p then some (f q) else getP p (r.map fun q => (q, f q))) = _
    cases c : plEq q p with
    | true => rw [cond_true, plEq_iff.mp c]
    | false =>
      rw [cond_false]
      rcases List.mem_cons.mp h with rfl | h
      · rw [plEq_iff.mpr rfl] at c; cases c
      · exact get_map f h
-- the making
noncomputable def wonE (G : GM) (xs : List Pl) : Es := (xs.filter fun p => Nat.beq (aftP G false p).1 1).map fun p => (p, .bool true)
noncomputable def toldE (G : GM) (xs : List Pl) : Es := xs.map fun p => (p, N (m2N (aftP G false p).1))
noncomputable def nodE (G : GM) (xs : List Pl) : List (Pl × List Pl) := (xs.filter fun p => Nat.beq (aftP G false p).1 3).map fun p => (p, (aftP G false p).2)
theorem so_go : ∀ (ys xs : List Pl), (∀ x ∈ xs, ∀ y ∈ ys, codeP x < codeP y) → ys.Pairwise (fun a b => codeP a < codeP b) → ys.foldl (so1 G) (wonE G xs, toldE G xs, nodE G xs) = (wonE G (xs ++ ys), toldE G (xs ++ ys), nodE G (xs ++ ys))
  | [], xs, _, _ => by rw [List.append_nil]; rfl
  | y :: ys, xs, h, hp => by
    have ne : ∀ x ∈ xs, x ≠ y := fun x hx e => by have := h x hx y (.head _); rw [e] at this; (first | lia | omega)
    have e1 : so1 G (wonE G xs, toldE G xs, nodE G xs) y = (wonE G (xs ++ [y]), toldE G (xs ++ [y]), nodE G (xs ++ [y])) := by
      unfold so1
      have a1 : hasP y (wonE G xs) = false := has_false fun q hq => by
        unfold wonE at hq
        simp only [List.mem_map, List.mem_filter] at hq
        obtain ⟨p, ⟨hp, -⟩, rfl⟩ := hq
        exact ne p hp
      have a2 : hasP y (toldE G xs) = false := has_false fun q hq => by
        unfold toldE at hq
        simp only [List.mem_map] at hq
        obtain ⟨p, hp, rfl⟩ := hq
        exact ne p hp
      dsimp only
      rw [upd_none _ a1, upd_none _ a2]
      unfold wonE toldE nodE
      rw [List.filter_append, List.filter_append]
      congr 1
      · cases c : Nat.beq (aftP G false y).1 1 with
        | true => rw [cond_true]; simp [c]
        | false => rw [cond_false]; simp [c]
      · congr 1
        · simp
        · cases c : Nat.beq (aftP G false y).1 3 with
          | true => rw [cond_true]; simp [c]
          | false => rw [cond_false]; simp [c]
    rw [List.foldl_cons, e1]
    obtain ⟨hp1, hp2⟩ := List.pairwise_cons.mp hp
    rw [so_go ys (xs ++ [y]) (fun x hx z hz => ?_) hp2, List.append_assoc]
    · rfl
    · rcases List.mem_append.mp hx with hx | hx
      · exact h x hx z (.tail _ hz)
      · rw [List.mem_singleton] at hx; subst hx; exact hp1 z hz
theorem so5_is (hi : incr 0 (PLs G col) = true) : so5 G col = (wonE G (PLs G col), toldE G (PLs G col), nodE G (PLs G col)) := by
  rw [so5_eq]
  have := so_go (G := G) (PLs G col) [] (fun x hx => by cases hx) (incr_of _ _ hi).2
  exact this
-- the rounds keep to the placings
theorem upd_keys {p : Pl} {v : V} : ∀ {es : Es}, ∀ q ∈ updP p v es, q.1 = p ∨ ∃ y ∈ es, y.1 = q.1
  | [], q, h => by
    have : q = (p, v) := by simpa [updP] using h
    exact .inl (by rw [this])
  | x :: r, q, h => by
    unfold updP at h
    cases c : plEq x.1 p with
    | true =>
      rw [c, cond_true] at h
      rcases List.mem_cons.mp h with rfl | h
      · exact .inl (plEq_iff.mp c)
      · exact .inr ⟨q, .tail _ h, rfl⟩
    | false =>
      rw [c, cond_false] at h
      rcases List.mem_cons.mp h with rfl | h
      · exact .inr ⟨q, .head _, rfl⟩
      · rcases upd_keys q h with h | ⟨y, h1, h2⟩
        · exact .inl h
        · exact .inr ⟨y, .tail _ h1, h2⟩
theorem rd_keys {xs : List Pl} : ∀ (ns : List (Pl × List Pl)) (we : Es) (fl : Bool), (∀ q ∈ ns, q.1 ∈ xs) → (∀ q ∈ we, q.1 ∈ xs) → ∀ q ∈ (ns.foldl rd1 (we, fl)).1, q.1 ∈ xs
  | [], we, fl, _, hw => hw
  | n :: ns, we, fl, hn, hw => by
    rw [List.foldl_cons]
    have : ∀ q ∈ (rd1 (we, fl) n).1, q.1 ∈ xs := by
      unfold rd1
      dsimp only
      cases hasP n.1 we with
      | true => exact hw
      | false =>
        rw [cond_false]
        cases wonN n.1.sd (cntP we n.2) n.2.length with
        | false => exact hw
        | true =>
          intro q hq
          rcases upd_keys q hq with h | ⟨y, h1, h2⟩
          · rw [h]; exact hn n (.head _)
          · rw [← h2]; exact hw y h1
    exact rd_keys ns (rd1 (we, fl) n).1 (rd1 (we, fl) n).2 (fun q hq => hn q (.tail _ hq)) this
theorem wl_keys {xs : List Pl} {ns : List (Pl × List Pl)} (hn : ∀ q ∈ ns, q.1 ∈ xs) : ∀ (f : Nat) (we we' : Es) (fl : Bool), wlS ns f we fl = some we' → (∀ q ∈ we, q.1 ∈ xs) → ∀ q ∈ we', q.1 ∈ xs
  | 0, we, we', fl, h, _ => by cases h
  | f + 1, we, we', fl, h, hw => by
    unfold wlS at h
    cases fl with
    | false =>
      rw [cond_false] at h
      obtain rfl : we = we' := by simpa using h
      exact hw
    | true =>
      rw [cond_true] at h
      exact wl_keys hn f _ we' _ h (rd_keys ns we false hn hw)
-- the last turn: told[place] = 4
theorem upd_map (f : Pl → V) {p : Pl} {v : V} : ∀ {xs : List Pl}, p ∈ xs → xs.Pairwise (fun a b => codeP a < codeP b) → updP p v (xs.map fun q => (q, f q)) = xs.map fun q => (q, bif plEq q p then v else f q)
  | [], h, _ => by cases h
  | x :: r, h, hp => by
    obtain ⟨hp1, hp2⟩ := List.pairwise_cons.mp hp
    show (bif plEq x p then (x, v) :: r.map (fun q => (q, f q)) else (x, f x) :: updP p v (r.map fun q => (q, f q))) = (x, bif plEq x p then v else f x) :: r.map fun q => (q, bif plEq q p then v else f q)
    cases c : plEq x p with
    | true =>
      rw [cond_true, cond_true]
      congr 1
      refine List.map_congr_left fun q hq => ?_
      have : plEq q p = false := by
        cases d : plEq q p with
        | false => rfl
        | true =>
          have e1 := plEq_iff.mp c
          have e2 := plEq_iff.mp d
          have := hp1 q hq
          rw [e1, e2] at this; (first | lia | omega)
      rw [this, cond_false]
    | false =>
      rw [cond_false, cond_false, upd_map f ?_ hp2]
      rcases List.mem_cons.mp h with rfl | h
      · rw [plEq_iff.mpr rfl] at c; cases c
      · exact h
theorem upd_all {xs : List Pl} (hp : xs.Pairwise (fun a b => codeP a < codeP b)) {v : V} : ∀ (we : Es) (f : Pl → V), (∀ q ∈ we, q.1 ∈ xs) → we.foldl (fun ts q => updP q.1 v ts) (xs.map fun q => (q, f q)) = xs.map fun q => (q, bif hasP q we then v else f q)
  | [], f, _ => by
    show xs.map (fun q => (q, f q)) = _
    rfl
  | w :: we, f, h => by
    rw [List.foldl_cons, upd_map f (h w (.head _)) hp, upd_all hp we (fun q => bif plEq q w.1 then v else f q) fun q hq => h q (.tail _ hq)]
    refine List.map_congr_left fun q hq => ?_
    congr 1
    show (bif hasP q we then v else bif plEq q w.1 then v else f q) = bif (bif plEq w.1 q then true else hasP q we) then v else f q
    have e : plEq w.1 q = plEq q w.1 := by
      cases c : plEq q w.1 with
      | true => rw [plEq_iff.mp c]; exact plEq_iff.mpr rfl
      | false =>
        cases d : plEq w.1 q with
        | false => rfl
        | true => rw [plEq_iff.mp d, plEq_iff.mpr rfl] at c; cases c
    rw [e]
    cases plEq q w.1 <;> cases hasP q we <;> rfl
noncomputable def valP (G : GM) (we : Es) (p : Pl) : Nat := bif hasP p we then 4 else m2N (aftP G false p).1
theorem sol_is (hi : incr 0 (PLs G col) = true) {we : Es} (hw : wlS (nodE G (PLs G col)) 64 (wonE G (PLs G col)) true = some we) : solS G col = some ((PLs G col).map fun p => (p, N (valP G we p))) := by
  unfold solS
  rw [so5_is hi]
  dsimp only
  rw [hw]
  dsimp only
  congr 1
  have hk : ∀ q ∈ we, q.1 ∈ PLs G col := wl_keys (fun q hq => by
    unfold nodE at hq
    simp only [List.mem_map, List.mem_filter] at hq
    obtain ⟨p, ⟨hp, -⟩, rfl⟩ := hq
    exact hp) 64 _ we true hw (fun q hq => by
    unfold wonE at hq
    simp only [List.mem_map, List.mem_filter] at hq
    obtain ⟨p, ⟨hp, -⟩, rfl⟩ := hq
    exact hp)
  refine (upd_all (incr_of _ _ hi).2 we (fun p => N (m2N (aftP G false p).1)) hk).trans (List.map_congr_left fun q hq => ?_)
  unfold valP
  cases hasP q we <;> rfl
-- the mirror
theorem mir_mir (s : Sh G) {x : Nat} : mirN G.fl (mirN G.fl x) = x := by
  rw [mir_is s (mirN G.fl x), mir_div s, mir_file s]
  have e := Nat.div_add_mod x G.fl
  have l := Nat.mod_lt x s.f0
  have : G.fl - 1 - (G.fl - 1 - x % G.fl) = x % G.fl := Nat.sub_sub_self (Nat.le_sub_one_of_lt l)
  rw [this, e]
theorem mir_on (s : Sh G) {p : Pl} (hp : OnB G p) : OnB G (mirP G p) := ⟨hp.1, mir_lt s hp.2.1, mir_in s hp.2.2.1, mir_lt s hp.2.2.2⟩
theorem tbl_mir (s : Sh G) {z : Nat} {p : Pl} (hne : p.pw % G.fl ≠ G.fl - 1 - p.pw % G.fl) : tblP G z (mirP G p) = tblP G z p := by
  have bd := s.bd
  have q2 : p.pw % G.fl < G.fl := Nat.mod_lt _ (by (first | lia | omega))
  show tblN G z p.sd (mirN G.fl p.st) (mirN G.fl p.pw) (mirN G.fl p.wk) = tblN G z p.sd p.st p.pw p.wk
  rw [tblN_eq, tblN_eq, mir_file s, mir_mir s, mir_mir s, mir_mir s]
  have hf : G.fl = 2 ∨ G.fl = 3 := by (first | lia | omega)
  cases c : Nat.ble (p.pw % G.fl + 1) ((G.fl + 1) / 2) with
  | true =>
    have c := Nat.le_of_ble_eq_true c
    have : Nat.ble (G.fl - 1 - p.pw % G.fl + 1) ((G.fl + 1) / 2) = false := by
      cases d : Nat.ble (G.fl - 1 - p.pw % G.fl + 1) ((G.fl + 1) / 2) with
      | false => rfl
      | true => have d := Nat.le_of_ble_eq_true d; (first | lia | omega)
    rw [this]; rfl
  | false =>
    have c : ¬ p.pw % G.fl + 1 ≤ (G.fl + 1) / 2 := fun q => by rw [Nat.ble_eq_true_of_le q] at c; cases c
    have : Nat.ble (G.fl - 1 - p.pw % G.fl + 1) ((G.fl + 1) / 2) = true := Nat.ble_eq_true_of_le (by (first | lia | omega))
    rw [this]; rfl
end
-- part Sy16
-- Sy16: the pure functions as the kernel evaluates them (own work): bare recursors, forced numbers
abbrev KS := Nat → List Pl → Bool
noncomputable def revA (xs : List Pl) : List Pl → List Pl := @List.rec Pl (fun _ => List Pl → List Pl) (fun a => a) (fun x _ ih a => ih (x :: a)) xs
theorem revA_eq : ∀ (xs a : List Pl), revA xs a = xs.reverse ++ a
  | [], a => rfl
  | x :: xs, a => by
    show revA xs (x :: a) = _
    rw [revA_eq xs (x :: a)]; simp
noncomputable def lenP (xs : List Pl) : Nat := @List.rec Pl (fun _ => Nat → Nat) (fun n => n) (fun _ _ ih n => ih (Nat.succ n)) xs (nat_lit 0)
theorem lenP_aux : ∀ (xs : List Pl) (n : Nat), @List.rec Pl (fun _ => Nat → Nat) (fun n => n) (fun _ _ ih n => ih (Nat.succ n)) xs n = n + xs.length
  | [], n => rfl
  | x :: xs, n => by
    show @List.rec Pl (fun _ => Nat → Nat) (fun n => n) (fun _ _ ih n => ih (Nat.succ n)) xs (Nat.succ n) = _
    rw [lenP_aux xs (Nat.succ n), List.length_cons]; (first | lia | omega)
theorem lenP_eq (xs : List Pl) : lenP xs = xs.length := by
  have := lenP_aux xs 0
  unfold lenP
  rw [this]; (first | lia | omega)
noncomputable def foldK {α : Type} (f : α → Nat → List Pl → KS → Bool) (xs : List α) : Nat → List Pl → KS → Bool :=
  @List.rec α (fun _ => Nat → List Pl → KS → Bool) (fun z a k => k z a) (fun x _ ih z a k => f x z a fun z a => ih z a k) xs
theorem foldK_eq {α : Type} {f : α → Nat → List Pl → KS → Bool} {g : SS2 → α → SS2} (h : ∀ x (S : SS2) k, f x S.1 S.2.reverse k = k (g S x).1 (g S x).2.reverse) :
    ∀ (xs : List α) (S : SS2) (k : KS), foldK f xs S.1 S.2.reverse k = k (xs.foldl g S).1 (xs.foldl g S).2.reverse
  | [], S, k => rfl
  | x :: xs, S, k => by
    show f x S.1 S.2.reverse (fun z a => foldK f xs z a k) = _
    rw [h, foldK_eq h xs (g S x) k]; rfl
section
variable (G : GM) (fr : List (List Nat))
noncomputable def sfSK (p : Pl) (z : Nat) (a : List Pl) (k : KS) : Bool := forceN (fstP G p) fun r => forceN (setI G z p r) fun z => bcase (Nat.beq r (nat_lit 1)) (k z (p :: a)) (k z a)
theorem sfSK_eq (p : Pl) (S : SS2) (k : KS) : sfSK G p S.1 S.2.reverse k = k (sfS G S p).1 (sfS G S p).2.reverse := by
  unfold sfSK
  rw [forceN_eq, forceN_eq]
  show bcase (Nat.beq (fstP G p) 1) _ _ = k (setI G S.1 p (fstP G p)) (bif Nat.beq (fstP G p) 1 then S.2 ++ [p] else S.2).reverse
  cases Nat.beq (fstP G p) 1 with
  | true => rw [bcase_t, cond_true]; simp
  | false => rw [bcase_f, cond_false]
noncomputable def sfTK (wk pw st : Nat) (z : Nat) (a : List Pl) (k : KS) : Bool := sfSK G ⟨nat_lit 0, st, pw, wk⟩ z a fun z a => sfSK G ⟨nat_lit 1, st, pw, wk⟩ z a k
theorem sfTK_eq (wk pw st : Nat) (S : SS2) (k : KS) : sfTK G wk pw st S.1 S.2.reverse k = k (sfT G wk pw S st).1 (sfT G wk pw S st).2.reverse := by
  unfold sfTK
  rw [sfSK_eq, sfSK_eq]; rfl
noncomputable def sfWK (pw wk : Nat) (z : Nat) (a : List Pl) (k : KS) : Bool := foldK (sfTK G wk pw) (rowOf fr wk) z a k
theorem sfWK_eq (pw wk : Nat) (S : SS2) (k : KS) : sfWK G fr pw wk S.1 S.2.reverse k = k (sfW G fr pw S wk).1 (sfW G fr pw S wk).2.reverse :=
  foldK_eq (fun x S k => sfTK_eq G wk pw x S k) (rowOf fr wk) S k
noncomputable def sfPK (RL : List Nat) (pw : Nat) (z : Nat) (a : List Pl) (k : KS) : Bool :=
  bcase (Nat.ble (Nat.add (Nat.mod pw G.fl) (nat_lit 1)) (Nat.div (Nat.add G.fl (nat_lit 1)) (nat_lit 2))) (foldK (sfWK G fr pw) RL z a k) (k z a)
theorem sfPK_eq (pw : Nat) (S : SS2) (k : KS) : sfPK G fr (List.range G.sz) pw S.1 S.2.reverse k = k (sfP G fr S pw).1 (sfP G fr S pw).2.reverse := by
  show bcase (Nat.ble (pw % G.fl + 1) ((G.fl + 1) / 2)) (foldK (sfWK G fr pw) (List.range G.sz) S.1 S.2.reverse k) (k S.1 S.2.reverse) = _
  unfold sfP
  cases Nat.ble (pw % G.fl + 1) ((G.fl + 1) / 2) with
  | true =>
    rw [bcase_t, cond_true]
    exact foldK_eq (fun x S k => sfWK_eq G fr pw x S k) (List.range G.sz) S k
  | false => rw [bcase_f, cond_false]
noncomputable def rndK (xs : List Pl) : Nat → List Pl → KS → Bool :=
  @List.rec Pl (fun _ => Nat → List Pl → KS → Bool) (fun z a k => k z a) (fun p _ ih z a k => forceN (clsP G z p) fun c => bcase (Nat.beq c (nat_lit 1)) (ih z (p :: a) k) (forceN (setI G z p c) fun z => ih z a k)) xs
theorem rndK_eq : ∀ (xs : List Pl) (z : Nat) (a : List Pl) (k : KS), rndK G xs z a k = k (rndS G xs z a.reverse).1 (rndS G xs z a.reverse).2.reverse
  | [], z, a, k => by
    show k z a = k z a.reverse.reverse
    rw [List.reverse_reverse]
  | p :: xs, z, a, k => by
    show forceN (clsP G z p) (fun c => bcase (Nat.beq c 1) (rndK G xs z (p :: a) k) (forceN (setI G z p c) fun z => rndK G xs z a k)) = _
    rw [forceN_eq, rndS_cons]
    cases Nat.beq (clsP G z p) 1 with
    | true =>
      rw [bcase_t, cond_true, rndK_eq xs z (p :: a) k]; simp
    | false => rw [bcase_f, cond_false, forceN_eq, rndK_eq xs _ a k]
noncomputable def bldK (f : Nat) : Nat → List Pl → KS → Bool :=
  @Nat.rec (fun _ => Nat → List Pl → KS → Bool) (fun _ _ _ => false) (fun _ ih z xs k => rndK G xs z [] fun z' a => bcase (Nat.beq (lenP a) (lenP xs)) (k z' xs) (ih z' (revA a []) k)) f
theorem bldK_of : ∀ (f z : Nat) (xs : List Pl) (k : KS), bldK G f z xs k = true → ∃ z' xs', bldS G f z xs = some (z', xs') ∧ k z' xs' = true
  | 0, z, xs, k, h => by cases h
  | f + 1, z, xs, k, h => by
    have h : rndK G xs z [] (fun z' a => bcase (Nat.beq (lenP a) (lenP xs)) (k z' xs) (bldK G f z' (revA a []) k)) = true := h
    rw [rndK_eq, lenP_eq, lenP_eq, List.length_reverse, revA_eq, List.append_nil, List.reverse_reverse, List.reverse_nil] at h
    unfold bldS
    cases q : Nat.beq (rndS G xs z []).2.length xs.length with
    | true =>
      rw [q, bcase_t] at h
      exact ⟨_, _, by rw [cond_true], h⟩
    | false =>
      rw [q, bcase_f] at h
      obtain ⟨z', xs', e, hk⟩ := bldK_of f _ _ k h
      exact ⟨z', xs', by rw [cond_false]; exact e, hk⟩
noncomputable def finK (xs : List Pl) : Nat → (Nat → Bool) → Bool := @List.rec Pl (fun _ => Nat → (Nat → Bool) → Bool) (fun z k => k z) (fun p _ ih z k => forceN (setI G z p (nat_lit 2)) fun z => ih z k) xs
theorem finK_eq : ∀ (xs : List Pl) (z : Nat) (k : Nat → Bool), finK G xs z k = k (finS G xs z)
  | [], z, k => rfl
  | p :: xs, z, k => by
    show forceN (setI G z p 2) (fun z => finK G xs z k) = _
    rw [forceN_eq, finK_eq xs]; rfl
noncomputable def buildK (PS RL : List Nat) (k : Nat → Bool) : Bool := foldK (sfPK G fr RL) PS (nat_lit 0) [] fun z a => bldK G (nat_lit 64) z (revA a []) fun z xs => finK G xs z k
theorem buildK_of {k : Nat → Bool} (h : buildK G fr (psN G) (List.range G.sz) k = true) : ∃ z, buildS G fr = some z ∧ k z = true := by
  have e := foldK_eq (f := sfPK G fr (List.range G.sz)) (g := sfP G fr) (fun x S k => sfPK_eq G fr x S k) (psN G) (0, []) (fun z a => bldK G 64 z (revA a []) fun z xs => finK G xs z k)
  have h : foldK (sfPK G fr (List.range G.sz)) (psN G) 0 [].reverse (fun z a => bldK G 64 z (revA a []) fun z xs => finK G xs z k) = true := h
  rw [e, revA_eq, List.append_nil, List.reverse_reverse] at h
  obtain ⟨z', xs', eb, hk⟩ := bldK_of G _ _ _ _ h
  rw [finK_eq] at hk
  refine ⟨finS G xs' z', ?_, hk⟩
  unfold buildS
  have eb : bldS G 64 (sfAll G fr).1 (sfAll G fr).2 = some (z', xs') := eb
  rw [eb]
end
-- the placings
noncomputable def plW (st pw : Nat) (ws : List Nat) (tail : List Pl) : List Pl := @List.rec Nat (fun _ => List Pl) tail (fun wk _ ih => ⟨nat_lit 0, st, pw, wk⟩ :: ⟨nat_lit 1, st, pw, wk⟩ :: ih) ws
noncomputable def plS (pw : Nat) (ws ss : List Nat) (tail : List Pl) : List Pl := @List.rec Nat (fun _ => List Pl) tail (fun st _ ih => plW st pw ws ih) ss
noncomputable def plP (ws qs : List Nat) : List Pl := @List.rec Nat (fun _ => List Pl) [] (fun pw _ ih => plS pw ws ws ih) qs
theorem plW_eq (st pw : Nat) (tail : List Pl) : ∀ ws : List Nat, plW st pw ws tail = (ws.flatMap fun wk => [⟨0, st, pw, wk⟩, ⟨1, st, pw, wk⟩]) ++ tail
  | [] => rfl
  | w :: ws => by
    show _ :: _ :: plW st pw ws tail = _
    rw [plW_eq st pw tail ws]; simp
theorem plS_eq (pw : Nat) (ws : List Nat) (tail : List Pl) : ∀ ss : List Nat, plS pw ws ss tail = (ss.flatMap fun st => ws.flatMap fun wk => [⟨0, st, pw, wk⟩, ⟨1, st, pw, wk⟩]) ++ tail
  | [] => rfl
  | s :: ss => by
    show plW s pw ws (plS pw ws ss tail) = _
    rw [plW_eq, plS_eq pw ws tail ss]; simp
theorem plP_eq (ws : List Nat) : ∀ qs : List Nat, plP ws qs = qs.flatMap fun pw => ws.flatMap fun st => ws.flatMap fun wk => [⟨0, st, pw, wk⟩, ⟨1, st, pw, wk⟩]
  | [] => rfl
  | q :: qs => by
    show plS q ws ws (plP ws qs) = _
    rw [plS_eq, plP_eq ws qs]; simp
-- bits
noncomputable def setB (W c : Nat) : Nat := Nat.lor W (Nat.shiftLeft (nat_lit 1) c)
theorem bitN_eq (W c : Nat) : bitN W c = W.testBit c := by
  show bnt (Nat.beq (Nat.land (Nat.shiftRight W c) 1) 0) = _
  rw [bnt_not]
  show (!(Nat.beq ((W >>> c) &&& 1) 0)) = (1 &&& (W >>> c) != 0)
  rw [Nat.and_comm]
  generalize 1 &&& W >>> c = x
  cases x <;> rfl
theorem bit_set (W c d : Nat) : bitN (setB W c) d = (bitN W d || decide (c = d)) := by
  rw [bitN_eq, bitN_eq]
  show (W ||| (1 <<< c)).testBit d = _
  rw [Nat.testBit_or, Nat.one_shiftLeft, Nat.testBit_two_pow]
theorem muladd_inj {a b c d n : Nat} (h : a * n + b = c * n + d) (hb : b < n) (hd : d < n) : a = c ∧ b = d := by
  have e1 : (a * n + b) / n = a := by rw [Nat.mul_comm, Nat.mul_add_div (Nat.zero_lt_of_lt hb), Nat.div_eq_of_lt hb, Nat.add_zero]
  have e2 : (c * n + d) / n = c := by rw [Nat.mul_comm, Nat.mul_add_div (Nat.zero_lt_of_lt hd), Nat.div_eq_of_lt hd, Nat.add_zero]
  have e : a = c := by rw [← e1, ← e2, h]
  subst e
  exact ⟨rfl, Nat.add_left_cancel h⟩
theorem code_inj {G : GM} (s : Sh G) {p q : Pl} (hp : OnB G p) (hq : OnB G q) (h : codeP p = codeP q) : p = q := by
  obtain ⟨a1, a2, -, a4⟩ := hp
  obtain ⟨b1, b2, -, b4⟩ := hq
  have l : G.sz < 16 := Nat.lt_of_le_of_lt s.bd.2.2.2.2.2 (by decide)
  rw [codeP_eq, codeP_eq] at h
  obtain ⟨h, h1⟩ := muladd_inj h (Nat.lt_succ_of_le a1) (Nat.lt_succ_of_le b1)
  obtain ⟨h, h2⟩ := muladd_inj h (Nat.lt_trans a4 l) (Nat.lt_trans b4 l)
  obtain ⟨h3, h4⟩ := muladd_inj h (Nat.lt_trans a2 l) (Nat.lt_trans b2 l)
  cases p; cases q
  dsimp only at h1 h2 h3 h4
  rw [h1, h2, h3, h4]
noncomputable def Rel (G : GM) (we : Es) (W : Nat) : Prop := ∀ p, OnB G p → hasP p we = bitN W (codeP p)
section
variable {G : GM} {col : Nat}
theorem has_upd {p q : Pl} {v : V} : ∀ {es : Es}, hasP q (updP p v es) = (hasP q es || plEq p q)
  | [] => by
    show (bif plEq p q then true else hasP q []) = (hasP q [] || plEq p q)
    cases plEq p q <;> rfl
  | x :: r => by
    unfold updP
    cases c : plEq x.1 p with
    | true =>
      rw [cond_true]
      show (bif plEq x.1 q then true else hasP q r) = ((bif plEq x.1 q then true else hasP q r) || plEq p q)
      rw [plEq_iff.mp c]
      cases plEq p q <;> cases hasP q r <;> rfl
    | false =>
      rw [cond_false]
      show (bif plEq x.1 q then true else hasP q (updP p v r)) = ((bif plEq x.1 q then true else hasP q r) || plEq p q)
      rw [has_upd]
      cases plEq x.1 q <;> rfl
theorem Rel.upd (s : Sh G) {we : Es} {W : Nat} {p : Pl} {v : V} (x : Rel G we W) (hp : OnB G p) : Rel G (updP p v we) (setB W (codeP p)) := fun q hq => by
  rw [has_upd, bit_set, x q hq]
  congr 1
  cases c : plEq p q with
  | true => rw [plEq_iff.mp c]; simp
  | false =>
    symm
    apply decide_eq_false
    intro e
    rw [code_inj s hp hq e, plEq_iff.mpr rfl] at c; cases c
noncomputable def cntB (W : Nat) (out : List Pl) : Nat := @List.rec Pl (fun _ => Nat → Nat) (fun n => n) (fun p _ ih n => ih (ncase (bitN W (codeP p)) (Nat.succ n) n)) out (nat_lit 0)
theorem cntB_eq {we : Es} {W : Nat} (x : Rel G we W) : ∀ (out : List Pl) (n : Nat), (∀ q ∈ out, OnB G q) → @List.rec Pl (fun _ => Nat → Nat) (fun n => n) (fun p _ ih n => ih (ncase (bitN W (codeP p)) (Nat.succ n) n)) out n = out.foldl (fun n p => bif hasP p we then n + 1 else n) n
  | [], n, _ => rfl
  | p :: out, n, h => by
    show @List.rec Pl (fun _ => Nat → Nat) (fun n => n) (fun p _ ih n => ih (ncase (bitN W (codeP p)) (Nat.succ n) n)) out (ncase (bitN W (codeP p)) (Nat.succ n) n) = _
    rw [cntB_eq x out _ fun q hq => h q (.tail _ hq), List.foldl_cons, x p (h p (.head _))]
    cases bitN W (codeP p) <;> rfl
noncomputable def rdK (ns : List (Pl × List Pl)) : Nat → Bool → (Nat → Bool → Bool) → Bool :=
  @List.rec (Pl × List Pl) (fun _ => Nat → Bool → (Nat → Bool → Bool) → Bool) (fun W fl k => k W fl)
    (fun n _ ih W fl k => @Prod.rec Pl (List Pl) (fun _ => Bool) (fun p out => bcase (bitN W (codeP p)) (ih W fl k) (bcase (wonN p.sd (cntB W out) (lenP out)) (forceN (setB W (codeP p)) fun W => ih W true k) (ih W fl k))) n) ns
theorem rdK_of (s : Sh G) : ∀ (ns : List (Pl × List Pl)) (W : Nat) (fl : Bool) (k : Nat → Bool → Bool) (we : Es), (∀ n ∈ ns, OnB G n.1 ∧ ∀ q ∈ n.2, OnB G q) → Rel G we W → rdK ns W fl k = true → ∃ W', Rel G (ns.foldl rd1 (we, fl)).1 W' ∧ k W' (ns.foldl rd1 (we, fl)).2 = true
  | [], W, fl, k, we, _, x, h => ⟨W, x, h⟩
  | (p, out) :: ns, W, fl, k, we, hn, x, h => by
    have h : bcase (bitN W (codeP p)) (rdK ns W fl k) (bcase (wonN p.sd (cntB W out) (lenP out)) (forceN (setB W (codeP p)) fun W => rdK ns W true k) (rdK ns W fl k)) = true := h
    obtain ⟨h1, h2⟩ := hn (p, out) (.head _)
    have hn' : ∀ n ∈ ns, OnB G n.1 ∧ ∀ q ∈ n.2, OnB G q := fun n h => hn n (.tail _ h)
    have ec : cntB W out = cntP we out := cntB_eq x out 0 h2
    rw [← x p h1, ec, lenP_eq, forceN_eq] at h
    rw [List.foldl_cons]
    have er : rd1 (we, fl) (p, out) = bif hasP p we then (we, fl) else bif wonN p.sd (cntP we out) out.length then (updP p (.bool true) we, true) else (we, fl) := rfl
    rw [er]
    cases c : hasP p we with
    | true =>
      rw [c, bcase_t] at h
      rw [cond_true]
      exact rdK_of s ns W fl k we hn' x h
    | false =>
      rw [c, bcase_f] at h
      rw [cond_false]
      cases d : wonN p.sd (cntP we out) out.length with
      | true =>
        rw [d, bcase_t] at h
        rw [cond_true]
        exact rdK_of s ns _ true k _ hn' (x.upd s h1) h
      | false =>
        rw [d, bcase_f] at h
        rw [cond_false]
        exact rdK_of s ns W fl k we hn' x h
noncomputable def wlK (ns : List (Pl × List Pl)) (f : Nat) : Nat → Bool → (Nat → Bool) → Bool :=
  @Nat.rec (fun _ => Nat → Bool → (Nat → Bool) → Bool) (fun _ _ _ => false) (fun _ ih W fl k => bcase fl (rdK ns W false fun W fl => ih W fl k) (k W)) f
theorem wlK_of (s : Sh G) {ns : List (Pl × List Pl)} (hn : ∀ n ∈ ns, OnB G n.1 ∧ ∀ q ∈ n.2, OnB G q) : ∀ (f W : Nat) (fl : Bool) (k : Nat → Bool) (we : Es), Rel G we W → wlK ns f W fl k = true → ∃ we' W', wlS ns f we fl = some we' ∧ Rel G we' W' ∧ k W' = true
  | 0, W, fl, k, we, _, h => by cases h
  | f + 1, W, fl, k, we, x, h => by
    have h : bcase fl (rdK ns W false fun W fl => wlK ns f W fl k) (k W) = true := h
    unfold wlS
    cases fl with
    | false =>
      rw [bcase_f] at h
      exact ⟨we, W, by rw [cond_false], x, h⟩
    | true =>
      rw [bcase_t] at h
      obtain ⟨W', x', h'⟩ := rdK_of s ns W false _ we hn x h
      obtain ⟨we', W'', e, x'', h''⟩ := wlK_of s hn f W' _ k _ x' h'
      exact ⟨we', W'', by rw [cond_true]; exact e, x'', h''⟩
variable (G)
noncomputable def nodK (xs : List Pl) : List (Pl × List Pl) := @List.rec Pl (fun _ => List (Pl × List Pl)) [] (fun p _ ih => pcase (Nat.beq (aftP G false p).1 (nat_lit 3)) ((p, (aftP G false p).2) :: ih) ih) xs
theorem nodK_eq : ∀ xs : List Pl, nodK G xs = nodE G xs
  | [] => rfl
  | p :: xs => by
    show pcase (Nat.beq (aftP G false p).1 3) ((p, (aftP G false p).2) :: nodK G xs) (nodK G xs) = _
    rw [nodK_eq xs]
    unfold nodE
    cases c : Nat.beq (aftP G false p).1 3 with
    | true => rw [pcase_t]; simp [c]
    | false => rw [pcase_f]; simp [c]
noncomputable def wonK (xs : List Pl) : Nat → (Nat → Bool) → Bool := @List.rec Pl (fun _ => Nat → (Nat → Bool) → Bool) (fun W k => k W) (fun p _ ih W k => bcase (Nat.beq (aftP G false p).1 (nat_lit 1)) (forceN (setB W (codeP p)) fun W => ih W k) (ih W k)) xs
variable {G}
theorem wonK_of (s : Sh G) : ∀ (ys xs : List Pl) (W : Nat) (k : Nat → Bool), (∀ p ∈ ys, OnB G p) → (∀ p ∈ xs, OnB G p) → Rel G (wonE G xs) W → wonK G ys W k = true → ∃ W', Rel G (wonE G (xs ++ ys)) W' ∧ k W' = true
  | [], xs, W, k, _, _, x, h => ⟨W, by rw [List.append_nil]; exact x, h⟩
  | p :: ys, xs, W, k, hy, hx, x, h => by
    have h : bcase (Nat.beq (aftP G false p).1 1) (forceN (setB W (codeP p)) fun W => wonK G ys W k) (wonK G ys W k) = true := h
    rw [forceN_eq] at h
    have e : xs ++ p :: ys = (xs ++ [p]) ++ ys := by simp
    have hp := hy p (.head _)
    have hx' : ∀ q ∈ xs ++ [p], OnB G q := fun q hq => by
      rcases List.mem_append.mp hq with hq | hq
      · exact hx q hq
      · rw [List.mem_singleton] at hq; subst hq; exact hp
    rw [e]
    cases c : Nat.beq (aftP G false p).1 1 with
    | true =>
      rw [c, bcase_t] at h
      refine wonK_of s ys (xs ++ [p]) _ k (fun q hq => hy q (.tail _ hq)) hx' (fun q hq => ?_) h
      rw [bit_set, ← x q hq]
      have ew : wonE G (xs ++ [p]) = wonE G xs ++ [(p, .bool true)] := by unfold wonE; simp [c]
      rw [ew]
      cases d : hasP q (wonE G xs) with
      | true =>
        obtain ⟨y, h1, h2⟩ := has_mem d
        rw [has_true ⟨y, List.mem_append_left _ h1, h2⟩]; rfl
      | false =>
        rw [Bool.false_or]
        by_cases f : p = q
        · subst f
          rw [has_true ⟨(p, .bool true), List.mem_append_right _ (.head _), rfl⟩]; simp
        · rw [has_false, decide_eq_false (fun g => f (code_inj s hp hq g))]
          intro y hy'
          rcases List.mem_append.mp hy' with hy' | hy'
          · intro g
            rw [has_true ⟨y, hy', g⟩] at d; cases d
          · rw [List.mem_singleton] at hy'; subst hy'; exact f
    | false =>
      rw [c, bcase_f] at h
      refine wonK_of s ys (xs ++ [p]) W k (fun q hq => hy q (.tail _ hq)) hx' (fun q hq => ?_) h
      have ew : wonE G (xs ++ [p]) = wonE G xs := by unfold wonE; simp [c]
      rw [ew]; exact x q hq
-- the last checks
variable (G)
noncomputable def cmpK (z W : Nat) (p : Pl) : Bool :=
  bcase (Nat.beq (tblP G z p) (ncase (bitN W (codeP p)) (nat_lit 4) (Nat.mul (ncase (Nat.ble (nat_lit 2) (aftP G false p).1) (nat_lit 1) (aftP G false p).1) (nat_lit 2))))
    (bcase (apartN G p) (Nat.beq (firstN G p.sd p.st p.pw p.wk) (k4 (aftP G false p).1)) true) false
noncomputable def allP (f : Pl → Bool) (xs : List Pl) : Bool := @List.rec Pl (fun _ => Bool) true (fun p _ ih => bcase (f p) ih false) xs
noncomputable def incrK (xs : List Pl) : Nat → Bool := @List.rec Pl (fun _ => Nat → Bool) (fun _ => true) (fun p _ ih m => bcase (Nat.ble m (codeP p)) (ih (Nat.succ (codeP p))) false) xs
theorem incrK_eq : ∀ (xs : List Pl) (m : Nat), incrK xs m = incr m xs
  | [], m => rfl
  | p :: xs, m => by
    show bcase (Nat.ble m (codeP p)) (incrK xs (Nat.succ (codeP p))) false = _
    rw [incrK_eq xs]; rfl
theorem allP_of {f : Pl → Bool} : ∀ {xs : List Pl}, allP f xs = true → ∀ p ∈ xs, f p = true
  | [], _, p, hp => by cases hp
  | x :: xs, h, p, hp => by
    obtain ⟨h1, h2⟩ := bc_of (show bcase (f x) (allP f xs) false = true from h)
    rcases List.mem_cons.mp hp with rfl | hp
    · exact h1
    · exact allP_of h2 p hp
noncomputable def smallK (fr : List (List Nat)) (PS RL : List Nat) (xs : List Pl) : Bool :=
  bcase (incrK xs (nat_lit 0)) (buildK G fr PS RL fun z => wonK G xs (nat_lit 0) fun W => wlK (nodK G xs) (nat_lit 64) W true fun W => allP (cmpK G z W) xs) false
noncomputable def cntTK (z : Nat) (out : List Pl) : Nat := @List.rec Pl (fun _ => Nat → Nat) (fun n => n) (fun p _ ih n => ih (ncase (Nat.beq (tblP G z p) (nat_lit 4)) (Nat.succ n) n)) out (nat_lit 0)
theorem cntTK_aux (z : Nat) : ∀ (out : List Pl) (n : Nat), @List.rec Pl (fun _ => Nat → Nat) (fun n => n) (fun p _ ih n => ih (ncase (Nat.beq (tblP G z p) (nat_lit 4)) (Nat.succ n) n)) out n = out.foldl (fun n q => bif Nat.beq (tblP G z q) 4 then n + 1 else n) n
  | [], n => rfl
  | p :: out, n => by
    show @List.rec Pl (fun _ => Nat → Nat) (fun n => n) (fun p _ ih n => ih (ncase (Nat.beq (tblP G z p) (nat_lit 4)) (Nat.succ n) n)) out (ncase (Nat.beq (tblP G z p) 4) (Nat.succ n) n) = _
    rw [cntTK_aux z out, List.foldl_cons]
    cases Nat.beq (tblP G z p) 4 <;> rfl
noncomputable def locK (db : Bool) (z : Nat) (p : Pl) : Bool := Nat.beq (tblP G z p) (wantN (aftP G db p).1 p.sd (cntTK G z (aftP G db p).2) (lenP (aftP G db p).2))
noncomputable def localK (fr : List (List Nat)) (PS RL : List Nat) (db : Bool) (xs : List Pl) : Bool := buildK G fr PS RL fun z => allP (locK G db z) xs
variable {G}
theorem localK_of {fr : List (List Nat)} {db : Bool} {xs : List Pl} (h : localK G fr (psN G) (List.range G.sz) db xs = true) :
    ∃ z, buildS G fr = some z ∧ ∀ p ∈ xs, tblP G z p = wantN (aftP G db p).1 p.sd (cntT G z (aftP G db p).2) (aftP G db p).2.length := by
  obtain ⟨z, e, h⟩ := buildK_of G fr h
  refine ⟨z, e, fun p hp => ?_⟩
  have := Nat.eq_of_beq_eq_true (allP_of h p hp)
  rw [this, lenP_eq]
  show wantN _ _ (cntTK G z (aftP G db p).2) _ = _
  unfold cntTK
  rw [cntTK_aux]; rfl
theorem smallK_of {fr : List (List Nat)} (s : Ok G) (hc : col < G.fl) (h : smallK G fr (psN G) (List.range G.sz) (PLs G col) = true) :
    ∃ z we, buildS G fr = some z ∧ solS G col = some ((PLs G col).map fun p => (p, N (valP G we p))) ∧ ∀ p ∈ PLs G col, tblP G z p = valP G we p ∧ (apartN G p = true → firstN G p.sd p.st p.pw p.wk = k4 (aftP G false p).1) := by
  obtain ⟨hi, h⟩ := bc_of h
  rw [incrK_eq] at hi
  obtain ⟨z, e, h⟩ := buildK_of G fr h
  have on := PLs_on s.toSh hc
  obtain ⟨W, x, h⟩ := wonK_of s.toSh (PLs G col) [] 0 _ (fun p hp => (on p hp).1) (fun p hp => by cases hp) (fun q hq => by
    rw [bitN_eq, Nat.zero_testBit]; rfl) h
  rw [List.nil_append] at x
  have hn : ∀ n ∈ nodK G (PLs G col), OnB G n.1 ∧ ∀ q ∈ n.2, OnB G q := by
    rw [nodK_eq]
    intro n hn
    unfold nodE at hn
    simp only [List.mem_map, List.mem_filter] at hn
    obtain ⟨p, ⟨hp, -⟩, rfl⟩ := hn
    exact ⟨(on p hp).1, aft_mem s (on p hp).1 (fun z => by cases z)⟩
  obtain ⟨we, W', ew, x', h⟩ := wlK_of s.toSh hn 64 W true _ _ x h
  rw [nodK_eq] at ew
  refine ⟨z, we, e, sol_is hi ew, fun p hp => ?_⟩
  obtain ⟨h1, h2⟩ := bc_of (allP_of h p hp)
  refine ⟨?_, fun ha => ?_⟩
  · rw [Nat.eq_of_beq_eq_true h1]
    unfold valP
    rw [x' p (on p hp).1]
    cases bitN W' (codeP p) <;> rfl
  · rw [ha, bcase_t] at h2
    exact Nat.eq_of_beq_eq_true h2
end
-- part SyK
-- SyK: the boards and the kernel's pure checks (printed by gen17.py)
noncomputable section
noncomputable def G23 : GM := ⟨nat_lit 2, nat_lit 3, nat_lit 6, nat_lit 63, false, nat_lit 33850734621430237235052558, nat_lit 4503737066586120, [[(nat_lit 1), (nat_lit 2), (nat_lit 3)], [(nat_lit 0), (nat_lit 2), (nat_lit 3)], [(nat_lit 0), (nat_lit 1), (nat_lit 3), (nat_lit 4), (nat_lit 5)], [(nat_lit 0), (nat_lit 1), (nat_lit 2), (nat_lit 4), (nat_lit 5)], [(nat_lit 2), (nat_lit 3), (nat_lit 5)], [(nat_lit 2), (nat_lit 3), (nat_lit 4)]]⟩
noncomputable def F23 : List (List Nat) := [[(nat_lit 4), (nat_lit 5)], [(nat_lit 4), (nat_lit 5)], [], [], [(nat_lit 0), (nat_lit 1)], [(nat_lit 0), (nat_lit 1)]]
noncomputable def G24 : GM := ⟨nat_lit 2, nat_lit 4, nat_lit 8, nat_lit 255, false, nat_lit 581551192578471238681133243620458510, nat_lit 77373613643081439070388232, [[(nat_lit 1), (nat_lit 2), (nat_lit 3)], [(nat_lit 0), (nat_lit 2), (nat_lit 3)], [(nat_lit 0), (nat_lit 1), (nat_lit 3), (nat_lit 4), (nat_lit 5)], [(nat_lit 0), (nat_lit 1), (nat_lit 2), (nat_lit 4), (nat_lit 5)], [(nat_lit 2), (nat_lit 3), (nat_lit 5), (nat_lit 6), (nat_lit 7)], [(nat_lit 2), (nat_lit 3), (nat_lit 4), (nat_lit 6), (nat_lit 7)], [(nat_lit 4), (nat_lit 5), (nat_lit 7)], [(nat_lit 4), (nat_lit 5), (nat_lit 6)]]⟩
noncomputable def F24 : List (List Nat) := [[(nat_lit 4), (nat_lit 5), (nat_lit 6), (nat_lit 7)], [(nat_lit 4), (nat_lit 5), (nat_lit 6), (nat_lit 7)], [(nat_lit 6), (nat_lit 7)], [(nat_lit 6), (nat_lit 7)], [(nat_lit 0), (nat_lit 1)], [(nat_lit 0), (nat_lit 1)], [(nat_lit 0), (nat_lit 1), (nat_lit 2), (nat_lit 3)], [(nat_lit 0), (nat_lit 1), (nat_lit 2), (nat_lit 3)]]
noncomputable def G33 : GM := ⟨nat_lit 3, nat_lit 3, nat_lit 9, nat_lit 511, false, nat_lit 59891648893747150199924398936195669491738, nat_lit 154748407904804987159969808, [[(nat_lit 1), (nat_lit 3), (nat_lit 4)], [(nat_lit 0), (nat_lit 2), (nat_lit 3), (nat_lit 4), (nat_lit 5)], [(nat_lit 1), (nat_lit 4), (nat_lit 5)], [(nat_lit 0), (nat_lit 1), (nat_lit 4), (nat_lit 6), (nat_lit 7)], [(nat_lit 0), (nat_lit 1), (nat_lit 2), (nat_lit 3), (nat_lit 5), (nat_lit 6), (nat_lit 7), (nat_lit 8)], [(nat_lit 1), (nat_lit 2), (nat_lit 4), (nat_lit 7), (nat_lit 8)], [(nat_lit 3), (nat_lit 4), (nat_lit 7)], [(nat_lit 3), (nat_lit 4), (nat_lit 5), (nat_lit 6), (nat_lit 8)], [(nat_lit 4), (nat_lit 5), (nat_lit 7)]]⟩
noncomputable def F33 : List (List Nat) := [[(nat_lit 2), (nat_lit 5), (nat_lit 6), (nat_lit 7), (nat_lit 8)], [(nat_lit 6), (nat_lit 7), (nat_lit 8)], [(nat_lit 0), (nat_lit 3), (nat_lit 6), (nat_lit 7), (nat_lit 8)], [(nat_lit 2), (nat_lit 5), (nat_lit 8)], [], [(nat_lit 0), (nat_lit 3), (nat_lit 6)], [(nat_lit 0), (nat_lit 1), (nat_lit 2), (nat_lit 5), (nat_lit 8)], [(nat_lit 0), (nat_lit 1), (nat_lit 2)], [(nat_lit 0), (nat_lit 1), (nat_lit 2), (nat_lit 3), (nat_lit 6)]]
noncomputable def G25d : GM := ⟨nat_lit 2, nat_lit 5, nat_lit 10, nat_lit 1023, true, nat_lit 9990973412297327535248309814273924185715441678, nat_lit 1329268560681496789887736393853304840, [[(nat_lit 1), (nat_lit 2), (nat_lit 3)], [(nat_lit 0), (nat_lit 2), (nat_lit 3)], [(nat_lit 0), (nat_lit 1), (nat_lit 3), (nat_lit 4), (nat_lit 5)], [(nat_lit 0), (nat_lit 1), (nat_lit 2), (nat_lit 4), (nat_lit 5)], [(nat_lit 2), (nat_lit 3), (nat_lit 5), (nat_lit 6), (nat_lit 7)], [(nat_lit 2), (nat_lit 3), (nat_lit 4), (nat_lit 6), (nat_lit 7)], [(nat_lit 4), (nat_lit 5), (nat_lit 7), (nat_lit 8), (nat_lit 9)], [(nat_lit 4), (nat_lit 5), (nat_lit 6), (nat_lit 8), (nat_lit 9)], [(nat_lit 6), (nat_lit 7), (nat_lit 9)], [(nat_lit 6), (nat_lit 7), (nat_lit 8)]]⟩
noncomputable def F25d : List (List Nat) := [[(nat_lit 4), (nat_lit 5), (nat_lit 6), (nat_lit 7), (nat_lit 8), (nat_lit 9)], [(nat_lit 4), (nat_lit 5), (nat_lit 6), (nat_lit 7), (nat_lit 8), (nat_lit 9)], [(nat_lit 6), (nat_lit 7), (nat_lit 8), (nat_lit 9)], [(nat_lit 6), (nat_lit 7), (nat_lit 8), (nat_lit 9)], [(nat_lit 0), (nat_lit 1), (nat_lit 8), (nat_lit 9)], [(nat_lit 0), (nat_lit 1), (nat_lit 8), (nat_lit 9)], [(nat_lit 0), (nat_lit 1), (nat_lit 2), (nat_lit 3)], [(nat_lit 0), (nat_lit 1), (nat_lit 2), (nat_lit 3)], [(nat_lit 0), (nat_lit 1), (nat_lit 2), (nat_lit 3), (nat_lit 4), (nat_lit 5)], [(nat_lit 0), (nat_lit 1), (nat_lit 2), (nat_lit 3), (nat_lit 4), (nat_lit 5)]]
noncomputable def G25s : GM := ⟨nat_lit 2, nat_lit 5, nat_lit 10, nat_lit 1023, false, nat_lit 9990973412297327535248309814273924185715441678, nat_lit 1329268560681496789887736393853304840, [[(nat_lit 1), (nat_lit 2), (nat_lit 3)], [(nat_lit 0), (nat_lit 2), (nat_lit 3)], [(nat_lit 0), (nat_lit 1), (nat_lit 3), (nat_lit 4), (nat_lit 5)], [(nat_lit 0), (nat_lit 1), (nat_lit 2), (nat_lit 4), (nat_lit 5)], [(nat_lit 2), (nat_lit 3), (nat_lit 5), (nat_lit 6), (nat_lit 7)], [(nat_lit 2), (nat_lit 3), (nat_lit 4), (nat_lit 6), (nat_lit 7)], [(nat_lit 4), (nat_lit 5), (nat_lit 7), (nat_lit 8), (nat_lit 9)], [(nat_lit 4), (nat_lit 5), (nat_lit 6), (nat_lit 8), (nat_lit 9)], [(nat_lit 6), (nat_lit 7), (nat_lit 9)], [(nat_lit 6), (nat_lit 7), (nat_lit 8)]]⟩
noncomputable def F25s : List (List Nat) := [[(nat_lit 4), (nat_lit 5), (nat_lit 6), (nat_lit 7), (nat_lit 8), (nat_lit 9)], [(nat_lit 4), (nat_lit 5), (nat_lit 6), (nat_lit 7), (nat_lit 8), (nat_lit 9)], [(nat_lit 6), (nat_lit 7), (nat_lit 8), (nat_lit 9)], [(nat_lit 6), (nat_lit 7), (nat_lit 8), (nat_lit 9)], [(nat_lit 0), (nat_lit 1), (nat_lit 8), (nat_lit 9)], [(nat_lit 0), (nat_lit 1), (nat_lit 8), (nat_lit 9)], [(nat_lit 0), (nat_lit 1), (nat_lit 2), (nat_lit 3)], [(nat_lit 0), (nat_lit 1), (nat_lit 2), (nat_lit 3)], [(nat_lit 0), (nat_lit 1), (nat_lit 2), (nat_lit 3), (nat_lit 4), (nat_lit 5)], [(nat_lit 0), (nat_lit 1), (nat_lit 2), (nat_lit 3), (nat_lit 4), (nat_lit 5)]]
end
theorem ps23 : psN G23 = [(nat_lit 3), (nat_lit 2)] := rfl
theorem rl23 : List.range G23.sz = [(nat_lit 0), (nat_lit 1), (nat_lit 2), (nat_lit 3), (nat_lit 4), (nat_lit 5)] := rfl
theorem ok23 : Ok3 G23 F23 where
  sh := by first | exact .inl ⟨rfl, rfl, rfl⟩ | exact .inr (.inl ⟨rfl, rfl, rfl⟩) | exact .inr (.inr (.inl ⟨rfl, rfl, rfl⟩)) | exact .inr (.inr (.inr ⟨rfl, rfl, rfl⟩))
  nb := by decide +kernel
  db := by first | exact fun _ => rfl | (intro h; cases h)
  far := by decide +kernel
  frb := by decide +kernel
  stp := by decide +kernel
  nbl := by decide +kernel
  nr := by decide +kernel
theorem ps24 : psN G24 = [(nat_lit 5), (nat_lit 4), (nat_lit 3), (nat_lit 2)] := rfl
theorem rl24 : List.range G24.sz = [(nat_lit 0), (nat_lit 1), (nat_lit 2), (nat_lit 3), (nat_lit 4), (nat_lit 5), (nat_lit 6), (nat_lit 7)] := rfl
theorem ok24 : Ok3 G24 F24 where
  sh := by first | exact .inl ⟨rfl, rfl, rfl⟩ | exact .inr (.inl ⟨rfl, rfl, rfl⟩) | exact .inr (.inr (.inl ⟨rfl, rfl, rfl⟩)) | exact .inr (.inr (.inr ⟨rfl, rfl, rfl⟩))
  nb := by decide +kernel
  db := by first | exact fun _ => rfl | (intro h; cases h)
  far := by decide +kernel
  frb := by decide +kernel
  stp := by decide +kernel
  nbl := by decide +kernel
  nr := by decide +kernel
theorem ps33 : psN G33 = [(nat_lit 5), (nat_lit 4), (nat_lit 3)] := rfl
theorem rl33 : List.range G33.sz = [(nat_lit 0), (nat_lit 1), (nat_lit 2), (nat_lit 3), (nat_lit 4), (nat_lit 5), (nat_lit 6), (nat_lit 7), (nat_lit 8)] := rfl
theorem ok33 : Ok3 G33 F33 where
  sh := by first | exact .inl ⟨rfl, rfl, rfl⟩ | exact .inr (.inl ⟨rfl, rfl, rfl⟩) | exact .inr (.inr (.inl ⟨rfl, rfl, rfl⟩)) | exact .inr (.inr (.inr ⟨rfl, rfl, rfl⟩))
  nb := by decide +kernel
  db := by first | exact fun _ => rfl | (intro h; cases h)
  far := by decide +kernel
  frb := by decide +kernel
  stp := by decide +kernel
  nbl := by decide +kernel
  nr := by decide +kernel
theorem ps25d : psN G25d = [(nat_lit 7), (nat_lit 6), (nat_lit 5), (nat_lit 4), (nat_lit 3), (nat_lit 2)] := rfl
theorem rl25d : List.range G25d.sz = [(nat_lit 0), (nat_lit 1), (nat_lit 2), (nat_lit 3), (nat_lit 4), (nat_lit 5), (nat_lit 6), (nat_lit 7), (nat_lit 8), (nat_lit 9)] := rfl
theorem ok25d : Ok3 G25d F25d where
  sh := by first | exact .inl ⟨rfl, rfl, rfl⟩ | exact .inr (.inl ⟨rfl, rfl, rfl⟩) | exact .inr (.inr (.inl ⟨rfl, rfl, rfl⟩)) | exact .inr (.inr (.inr ⟨rfl, rfl, rfl⟩))
  nb := by decide +kernel
  db := by first | exact fun _ => rfl | (intro h; cases h)
  far := by decide +kernel
  frb := by decide +kernel
  stp := by decide +kernel
  nbl := by decide +kernel
  nr := by decide +kernel
theorem ps25s : psN G25s = [(nat_lit 7), (nat_lit 6), (nat_lit 5), (nat_lit 4), (nat_lit 3), (nat_lit 2)] := rfl
theorem rl25s : List.range G25s.sz = [(nat_lit 0), (nat_lit 1), (nat_lit 2), (nat_lit 3), (nat_lit 4), (nat_lit 5), (nat_lit 6), (nat_lit 7), (nat_lit 8), (nat_lit 9)] := rfl
theorem ok25s : Ok3 G25s F25s where
  sh := by first | exact .inl ⟨rfl, rfl, rfl⟩ | exact .inr (.inl ⟨rfl, rfl, rfl⟩) | exact .inr (.inr (.inl ⟨rfl, rfl, rfl⟩)) | exact .inr (.inr (.inr ⟨rfl, rfl, rfl⟩))
  nb := by decide +kernel
  db := by first | exact fun _ => rfl | (intro h; cases h)
  far := by decide +kernel
  frb := by decide +kernel
  stp := by decide +kernel
  nbl := by decide +kernel
  nr := by decide +kernel
theorem s23_0 : smallK G23 F23 [(nat_lit 3), (nat_lit 2)] [(nat_lit 0), (nat_lit 1), (nat_lit 2), (nat_lit 3), (nat_lit 4), (nat_lit 5)] (plP [(nat_lit 0), (nat_lit 1), (nat_lit 2), (nat_lit 3), (nat_lit 4), (nat_lit 5)] [(nat_lit 2)]) = true := by kernel_rfl
theorem s23_1 : smallK G23 F23 [(nat_lit 3), (nat_lit 2)] [(nat_lit 0), (nat_lit 1), (nat_lit 2), (nat_lit 3), (nat_lit 4), (nat_lit 5)] (plP [(nat_lit 0), (nat_lit 1), (nat_lit 2), (nat_lit 3), (nat_lit 4), (nat_lit 5)] [(nat_lit 3)]) = true := by kernel_rfl
theorem s24_0 : smallK G24 F24 [(nat_lit 5), (nat_lit 4), (nat_lit 3), (nat_lit 2)] [(nat_lit 0), (nat_lit 1), (nat_lit 2), (nat_lit 3), (nat_lit 4), (nat_lit 5), (nat_lit 6), (nat_lit 7)] (plP [(nat_lit 0), (nat_lit 1), (nat_lit 2), (nat_lit 3), (nat_lit 4), (nat_lit 5), (nat_lit 6), (nat_lit 7)] [(nat_lit 2), (nat_lit 4)]) = true := by kernel_rfl
theorem s24_1 : smallK G24 F24 [(nat_lit 5), (nat_lit 4), (nat_lit 3), (nat_lit 2)] [(nat_lit 0), (nat_lit 1), (nat_lit 2), (nat_lit 3), (nat_lit 4), (nat_lit 5), (nat_lit 6), (nat_lit 7)] (plP [(nat_lit 0), (nat_lit 1), (nat_lit 2), (nat_lit 3), (nat_lit 4), (nat_lit 5), (nat_lit 6), (nat_lit 7)] [(nat_lit 3), (nat_lit 5)]) = true := by kernel_rfl
theorem s33_0 : smallK G33 F33 [(nat_lit 5), (nat_lit 4), (nat_lit 3)] [(nat_lit 0), (nat_lit 1), (nat_lit 2), (nat_lit 3), (nat_lit 4), (nat_lit 5), (nat_lit 6), (nat_lit 7), (nat_lit 8)] (plP [(nat_lit 0), (nat_lit 1), (nat_lit 2), (nat_lit 3), (nat_lit 4), (nat_lit 5), (nat_lit 6), (nat_lit 7), (nat_lit 8)] [(nat_lit 3)]) = true := by kernel_rfl
theorem s33_1 : smallK G33 F33 [(nat_lit 5), (nat_lit 4), (nat_lit 3)] [(nat_lit 0), (nat_lit 1), (nat_lit 2), (nat_lit 3), (nat_lit 4), (nat_lit 5), (nat_lit 6), (nat_lit 7), (nat_lit 8)] (plP [(nat_lit 0), (nat_lit 1), (nat_lit 2), (nat_lit 3), (nat_lit 4), (nat_lit 5), (nat_lit 6), (nat_lit 7), (nat_lit 8)] [(nat_lit 4)]) = true := by kernel_rfl
theorem s33_2 : smallK G33 F33 [(nat_lit 5), (nat_lit 4), (nat_lit 3)] [(nat_lit 0), (nat_lit 1), (nat_lit 2), (nat_lit 3), (nat_lit 4), (nat_lit 5), (nat_lit 6), (nat_lit 7), (nat_lit 8)] (plP [(nat_lit 0), (nat_lit 1), (nat_lit 2), (nat_lit 3), (nat_lit 4), (nat_lit 5), (nat_lit 6), (nat_lit 7), (nat_lit 8)] [(nat_lit 5)]) = true := by kernel_rfl
theorem l25d : localK G25d F25d [(nat_lit 7), (nat_lit 6), (nat_lit 5), (nat_lit 4), (nat_lit 3), (nat_lit 2)] [(nat_lit 0), (nat_lit 1), (nat_lit 2), (nat_lit 3), (nat_lit 4), (nat_lit 5), (nat_lit 6), (nat_lit 7), (nat_lit 8), (nat_lit 9)] true (plP [(nat_lit 0), (nat_lit 1), (nat_lit 2), (nat_lit 3), (nat_lit 4), (nat_lit 5), (nat_lit 6), (nat_lit 7), (nat_lit 8), (nat_lit 9)] [(nat_lit 2), (nat_lit 3), (nat_lit 4), (nat_lit 5), (nat_lit 6), (nat_lit 7)]) = true := by kernel_rfl
theorem l25s : localK G25s F25s [(nat_lit 7), (nat_lit 6), (nat_lit 5), (nat_lit 4), (nat_lit 3), (nat_lit 2)] [(nat_lit 0), (nat_lit 1), (nat_lit 2), (nat_lit 3), (nat_lit 4), (nat_lit 5), (nat_lit 6), (nat_lit 7), (nat_lit 8), (nat_lit 9)] false (plP [(nat_lit 0), (nat_lit 1), (nat_lit 2), (nat_lit 3), (nat_lit 4), (nat_lit 5), (nat_lit 6), (nat_lit 7), (nat_lit 8), (nat_lit 9)] [(nat_lit 2), (nat_lit 3), (nat_lit 4), (nat_lit 5), (nat_lit 6), (nat_lit 7)]) = true := by kernel_rfl
-- part Sy17
-- Sy17: the run, from its parts (own work)
noncomputable def frz (h : H) : H := ⟨h.t, h.n, h.n⟩
theorem frz_t (h : H) : (frz h).t = h.t := rfl
theorem frz_n (h : H) : (frz h).n = h.n := rfl
theorem frz_r (h : H) : (frz h).r = h.n := rfl
section
variable {G : GM} {fr : List (List Nat)} {b : Nat} {h h0 : H} {g kr pr p0 bb z nr rt col ep : Nat} {ρ : Nat → Nat} {es : Es} {lc db : Bool} {x0 : V} {t : List V} {ss ps : List Nat}
theorem GeoF.frz (F : GeoF G b h g kr pr p0) : GeoF G b (frz h) g kr pr p0 := ⟨F.own, F.fs, F.kl, F.pl, F.pw⟩
theorem RowsF.frz {s : Nat} (R : RowsF G b h s ρ) : RowsF G b (frz h) s ρ := ⟨R.own, R.rs, R.row⟩
-- the run
abbrev l5 (G : GM) (lc db : Bool) (g : Nat) : Loc := [.unb, .ref 0, N G.fl, N G.rk, N G.sz, .bool lc, .bool db, .ref g, .unb, .unb, .unb, .unb, .unb, .unb, .unb, .unb, .unb, .unb, .unb, .unb, .unb, .unb, .unb, .unb, .unb, .unb]
structure Made (G : GM) (lc db : Bool) (xs : List V) (H5 : H) (g kr pr p0 : Nat) : Prop where
  run : Ru b_law_5 (l₄ G.fl G.rk G.sz lc db) (η₁ xs) (.nx (l5 G lc db g) H5)
  r : H5.r = 0
  n : 0 < H5.n
  s0 : H5.t.get 0 = .list xs
  F : GeoF G H5.n H5 g kr pr p0
variable {xs : List V} {H5 : H} {c : Nat}
theorem made_57 (M : Made G lc db xs H5 g kr pr p0) (s' : Ok3 G fr) (hB : buildS G fr = some z) :
    ∃ h7 nr ρ, Ru b57 (l₄ G.fl G.rk G.sz lc db) (η₁ xs) (.nx [.unb, .ref 0, N G.fl, N G.rk, N G.sz, .bool lc, .bool db, .ref g, .ref H5.n, .ref nr, .unb, .unb, .unb, .unb, .unb, .unb, .unb, .unb, .unb, .unb, .unb, .unb, .unb, .unb, .unb, .unb] h7) ∧
      h7.r = 0 ∧ H5.n < h7.n ∧ h7.t.get 0 = .list xs ∧ GeoF G h7.n h7 g kr pr p0 ∧ h7.t.getS H5.n = .pk z (lenN G) ∧ RowsF G h7.n h7 nr ρ := by
  have hr := M.r
  have hn := M.n
  obtain ⟨h6, q1, q2, q3, q4⟩ := fc_build M.F s'.toOk2 (by (first | lia | omega)) hB
  have r6 := q2.2.1
  obtain ⟨h7, ρ, p1, p2, p3, p4, p5⟩ := fc_near (h := h6) s'.toOk s'.nr (by (first | lia | omega))
  have r7 := p2.2.1
  refine ⟨h7, h6.n, ρ, ru_seq M.run (ru_seq (ru_set (ev_fc (by (repeat' first | walk_at "kp_ev" | (first | lia | omega))) q1) rfl) (ru_set (ev_fc (by (repeat' first | walk_at "kp_ev" | (first | lia | omega))) p1) rfl)), by (first | lia | omega), by (first | lia | omega), ?_, ((M.F.kp q2).to (Nat.le_refl _) |>.kp p2).to (Nat.le_refl _), ?_, p4⟩
  · rw [p2.get (by (first | lia | omega)) (by (first | lia | omega)), q2.get hn (by (first | lia | omega))]; exact M.s0
  · rw [p2.2.2 _ q3 (by (first | lia | omega))]; exact q4
noncomputable abbrev law9C : XE := (xcmp cne (xlen (xloc (nat_lit 8))) (xbin omul (xbin omul (xbin omul (xbin omul (xbin odiv (xbin oadd (xloc (nat_lit 2)) (xlit (.int (.ofNat (nat_lit 1))))) (xlit (.int (.ofNat (nat_lit 2))))) (xbin osub (xloc (nat_lit 3)) (xlit (.int (.ofNat (nat_lit 2)))))) (xlit (.int (.ofNat (nat_lit 2))))) (xloc (nat_lit 4))) (xloc (nat_lit 4))))
theorem ru_9 {l : Loc} (s' : Sh G) (e2 : getV l 2 = N G.fl) (e3 : getV l 3 = N G.rk) (e4 : getV l 4 = N G.sz) (e8 : getV l 8 = .ref bb) (hz : h.t.getS bb = .pk z (lenN G)) : Ru b_law_9 l h (.nx l h) := by
  have := s'.bd
  have hL := lenN_le s'
  have q1 : (G.fl + 1) / 2 * (G.rk - 2) ≤ 2 * 3 := Nat.mul_le_mul (by (first | lia | omega)) (by (first | lia | omega))
  have q2 : (G.fl + 1) / 2 * (G.rk - 2) * 2 * G.sz ≤ 12 * 10 := Nat.mul_le_mul (by (first | lia | omega)) (by (first | lia | omega))
  have el := ev_lenP (l := l) (a := xloc 8) (ev_ref e8) hz (by (first | lia | omega))
  have er : Ev (xbin omul (xbin omul (xbin omul (xbin omul (xbin odiv (xbin oadd (xloc (nat_lit 2)) (xlit (.int (.ofNat (nat_lit 1))))) (xlit (.int (.ofNat (nat_lit 2))))) (xbin osub (xloc (nat_lit 3)) (xlit (.int (.ofNat (nat_lit 2)))))) (xlit (.int (.ofNat (nat_lit 2))))) (xloc (nat_lit 4))) (xloc (nat_lit 4))) l h (N (lenN G)) := by
    rw [lenN_eq]
    (repeat' first | walk_at "kp_ev" | (first | lia | omega) | exact nv_loc e2 | exact nv_loc e3 | exact nv_loc e4)
  have c : Tv law9C l h (bnt (Nat.beq (lenN G) (lenN G))) := tv_bool (ev_cne el er)
  rw [Nat.beq_refl] at c
  exact ru_ifF c ru_pass
noncomputable def HQ (G : GM) (lc db : Bool) (g bb nr c rt : Nat) (h : H) : Prop := ∀ p : Pl, OnB G p → (p.pw % G.fl = c ∨ p.pw % G.fl = G.fl - 1 - c) →
  ∃ T t' h', Fc f_probe_kpk [.ref g, .ref bb, N p.sd, N p.st, N p.pw, N p.wk] (frz h) (N T) (frz h) ∧
    Ru b_loop_13 (LL G .unb lc db g bb nr c rt [.unb, N p.sd, N p.st, N p.pw, N p.wk, .unb, .unb, .unb, .unb, N T, .unb, .unb, .unb, .unb]) (frz h) (.nx (LL G .unb lc db g bb nr c rt t') h')
-- what the run leaves ahead of the drawn placings
structure Done (G : GM) (lc db : Bool) (xs : List V) (g c bb nr rt : Nat) (h7 hE : H) (y12 y13 y14 y15 y16 y17 : V) : Prop where
  r7 : Ru b57 (l₄ G.fl G.rk G.sz lc db) (η₁ xs) (.nx [.unb, .ref 0, N G.fl, N G.rk, N G.sz, .bool lc, .bool db, .ref g, .ref bb, .ref nr, .unb, .unb, .unb, .unb, .unb, .unb, .unb, .unb, .unb, .unb, .unb, .unb, .unb, .unb, .unb, .unb] h7)
  s7 : h7.t.get 0 = .list xs
  rE : Ru (sseq b_law_9 (sseq b_law_10 b_law_11)) [.unb, .ref 0, N G.fl, N G.rk, N G.sz, .bool lc, .bool db, .ref g, .ref bb, .ref nr, N c, .unb, .unb, .unb, .unb, .unb, .unb, .unb, .unb, .unb, .unb, .unb, .unb, .unb, .unb, .unb] h7
    (.nx (LL G .unb lc db g bb nr c rt [y12, y13, y14, y15, y16, y17, .unb, .unb, .unb, .unb, .unb, .unb, .unb, .unb]) hE)
  sE : hE.t.get 0 = .list xs
  geo : ∃ b kr pr p0, GeoF G b hE g kr pr p0
  q : HQ G lc db g bb nr c rt hE
theorem run_local (M : Made G true db xs H5 g kr pr p0) (s' : Ok3 G fr) (hdb : db = true → G.rk = 5) {ls : List Pl} (hls : ∀ p, OnB G p → p ∈ ls) (hk : localK G fr (psN G) (List.range G.sz) db ls = true) :
    ∃ bb nr rt h7 hE y12 y13 y14 y15 y16 y17, Done G true db xs g c bb nr rt h7 hE y12 y13 y14 y15 y16 y17 := by
  obtain ⟨z, hB, hw⟩ := localK_of hk
  obtain ⟨h7, nr, ρ, r57, e1, e2, e3, F7, hz, R7⟩ := made_57 M s' hB
  have hn := M.n
  let hE := h7.new (.dict 0 [])
  have kE : Kp h7.n h7 hE := Kp.new _ _ _
  have FE : GeoF G hE.n hE g kr pr p0 := (F7.kp kE).to (Nat.le_refl _)
  have RE : RowsF G hE.n hE nr ρ := (R7.kp kE).to (Nat.le_refl _)
  have zE : hE.t.getS H5.n = .pk z (lenN G) := (kE.2.2 _ e2 (Nat.ne_of_lt e2)).trans hz
  have c0 : Tv (xnot (xloc (nat_lit 5))) (LL G .unb true db g H5.n nr c h7.n [.unb, .unb, .unb, .unb, .unb, .unb, .unb, .unb, .unb, .unb, .unb, .unb, .unb, .unb]) hE (bnt true) := by (repeat' first | walk_at "kp_ev" | (first | lia | omega))
  refine ⟨H5.n, nr, h7.n, h7, hE, .unb, .unb, .unb, .unb, .unb, .unb, r57, e3, ru_seq (ru_9 s'.toSh rfl rfl rfl rfl hz) (ru_seq (ru_set ex_dict rfl) (ru_ifF c0 ru_pass)), (kE.get (Nat.lt_trans hn e2) (Nat.ne_of_lt (Nat.lt_trans hn e2))).trans e3, ⟨_, _, _, _, FE⟩, fun p hp _ => ?_⟩
  obtain ⟨t', h', r⟩ := ru_local (h := frz hE) (x0 := .unb) (g := g) (bb := H5.n) (nr := nr) (col := c) (rt := h7.n) (x12 := .unb) (x17 := .unb) (x18 := .unb) (x19 := .unb) (x20 := .unb) (x22 := .unb) (x23 := .unb) (x24 := .unb) (x25 := .unb) FE.frz s' RE.frz (by rw [frz_t]; exact zE) (Nat.le_refl _) (by rw [frz_n]; exact Nat.lt_succ_of_lt e2) (Nat.le_refl _) hp hdb (hw p (hls p hp))
  obtain ⟨h1, h2, h3, h4⟩ := hp
  exact ⟨_, t', h', fc_probe FE.frz s'.toSh (by rw [frz_t]; exact zE) h1 h2 h3 h4, r⟩
theorem run_small (M : Made G false false xs H5 g kr pr p0) (s' : Ok3 G fr) (hc : c < G.fl) (hk : smallK G fr (psN G) (List.range G.sz) (PLs G c) = true) :
    ∃ bb nr rt h7 hE y12 y13 y14 y15 y16 y17, Done G false false xs g c bb nr rt h7 hE y12 y13 y14 y15 y16 y17 := by
  obtain ⟨z, we, hB, hS, hw⟩ := smallK_of s'.toOk hc hk
  obtain ⟨h7, nr, ρ, r57, e1, e2, e3, F7, hz, R7⟩ := made_57 M s' hB
  have bd := s'.bd
  have hn := M.n
  have on := PLs_on s'.toSh hc
  let h8 := h7.new (.dict 0 [])
  have k8 : Kp h7.n h7 h8 := Kp.new _ _ _
  have R8 : RowsF G h8.n h8 nr ρ := (R7.kp k8).to (Nat.le_refl _)
  obtain ⟨h9, td, q1, q2, q3, q4, ep, q5⟩ := fc_solve (h := h8) (col := c) R8 s' (by show h7.r ≤ h7.n + 1; (first | lia | omega)) hc hS
  have F9 : GeoF G h9.n h9 g kr pr p0 := ((F7.kp k8).to (Nat.le_refl _) |>.kp q2).to (Nat.le_refl _)
  have R9 : RowsF G h9.n h9 nr ρ := (R8.kp q2).to (Nat.le_refl _)
  have n8 : h8.n = h7.n + 1 := rfl
  have z9 : h9.t.getS H5.n = .pk z (lenN G) := ((q2.2.2 _ (by (first | lia | omega)) (by (first | lia | omega))).trans (k8.2.2 _ e2 (by (first | lia | omega)))).trans hz
  have kn9 := q2.1
  have r9 : h9.r = 0 := q2.2.1.trans e1
  obtain ⟨hE, y12, y13, y14, y15, y16, y17, rc, kE⟩ := ru_cmp (x0 := .unb) (lc := false) (db := false) (col := c) (x12 := .unb) (x13 := .unb) (x14 := .unb) (x15 := .unb) (x16 := .unb) (x17 := .unb) (x18 := .unb) (x19 := .unb) (x20 := .unb) (x21 := .unb) (x22 := .unb) (x23 := .unb) (x24 := .unb) (x25 := .unb) F9 s' R9 z9 q5 (by (first | lia | omega)) (Nat.le_refl _) (by (first | lia | omega)) q4 (fun q hq => by
    simp only [List.mem_map] at hq
    obtain ⟨p, hp, rfl⟩ := hq
    obtain ⟨w1, w2⟩ := hw p hp
    exact ⟨(on p hp).1, w2, by rw [w1]; exact get_map (fun p => N (valP G we p)) hp⟩)
  have c0 : Tv (xnot (xloc (nat_lit 5))) (LL G .unb false false g H5.n nr c h7.n [.unb, .unb, .unb, .unb, .unb, .unb, .unb, .unb, .unb, .unb, .unb, .unb, .unb, .unb]) h8 (bnt false) := by (repeat' first | walk_at "kp_ev" | (first | lia | omega))
  have FE : GeoF G hE.n hE g kr pr p0 := (F9.kp kE).to (Nat.le_refl _)
  have zE : hE.t.getS H5.n = .pk z (lenN G) := (kE.2.2 _ (by (first | lia | omega)) (by (first | lia | omega))).trans z9
  refine ⟨H5.n, nr, td, h7, hE, y12, y13, y14, y15, y16, y17, r57, e3, ru_seq (ru_9 s'.toSh rfl rfl rfl rfl hz) (ru_seq (ru_set ex_dict rfl) (ru_ifT c0 (ru_seq (ru_set (ev_fc (by (repeat' first | walk_at "kp_ev" | (first | lia | omega))) q1) rfl) rc))),
    ((kE.get (by (first | lia | omega)) (by (first | lia | omega))).trans (q2.get (by (first | lia | omega)) (by (first | lia | omega)))).trans ((k8.get (by (first | lia | omega)) (by (first | lia | omega))).trans e3), ⟨_, _, _, _, FE⟩, fun p hp m => ?_⟩
  have ex : ∀ q, OnB G q → q.pw % G.fl = c → getP q ((PLs G c).map fun p => (p, N (valP G we p))) = some (N (tblP G z q)) := fun q h1 h2 => by
    have hm := PLs_mem s'.toSh h1 h2
    rw [(hw q hm).1]
    exact get_map (fun p => N (valP G we p)) hm
  have hg : getP (rightP G c p) ((PLs G c).map fun p => (p, N (valP G we p))) = some (N (tblP G z p)) := by
    unfold rightP
    cases d : Nat.beq (p.pw % G.fl) c with
    | true => exact ex p hp (Nat.eq_of_beq_eq_true d)
    | false =>
      have d : ¬ p.pw % G.fl = c := fun q => by rw [q, Nat.beq_refl] at d; cases d
      have m : p.pw % G.fl = G.fl - 1 - c := m.resolve_left d
      show getP (mirP G p) _ = _
      rw [← tbl_mir s'.toSh (p := p) (by (first | lia | omega))]
      refine ex (mirP G p) (mir_on s'.toSh hp) ?_
      show mirN G.fl p.pw % G.fl = c
      rw [mir_file s'.toSh]; (first | lia | omega)
  obtain ⟨t', r⟩ := ru_small (h := frz hE) (x0 := .unb) (db := false) (g := g) (bb := H5.n) (nr := nr) (x12 := .unb) (x17 := .unb) (x18 := .unb) (x19 := .unb) (x20 := .unb) (x22 := .unb) (x23 := .unb) (x24 := .unb) (x25 := .unb) s'.toSh (by rw [frz_t]; exact (kE.get q4 (by (first | lia | omega))).trans q5) hg
  obtain ⟨h1, h2, h3, h4⟩ := hp
  exact ⟨_, t', _, fc_probe FE.frz s'.toSh (by rw [frz_t]; exact zE) h1 h2 h3 h4, r⟩
end
-- part SyM
-- SyM: the boards as make_geometry leaves them; the runs (printed by gen18.py)
theorem get_rng {sz : Nat} {f : Nat → V} {xs : List V} (e : xs = (List.range sz).map f) : ∀ i, i < sz → xs[i]? = some (f i) := fun i hi => by rw [e]; simp [hi]
noncomputable def H23 (xs : List V) : H := H.mk (.node (.ob (.list xs)) (.node (.ob (.list [(.tup [N 2, N 3]), (.tup [N 2, N 4]), (.tup [N 3, N 3]), (.tup [N 2, N 5])])) (.node (.ob (.list [N 21, N 42])) (.node (.ob (.list [N 32, N 16, N 0, N 0, N 2, N 1])) (.node (.pk (nat_lit 590295810393065390082) (nat_lit 6)) .nil .nil) .nil) (.node (.ob (.list [.none, .none, .none, .none])) (.node (.pk (nat_lit 147573952598266347520) (nat_lit 6)) .nil .nil) .nil)) (.node (.ob (.list [.ref 14, .ref 15, .ref 16, .ref 17, .ref 18, .ref 19, .ref 20, .ref 21])) (.node (.ob (.list [N 0, N 0, N 2, N 1, N 8, N 4])) (.node (.pk (nat_lit 19342813114959966702206976) (nat_lit 6)) .nil .nil) .nil) (.node (.ob (.list [N 14, N 13, N 59, N 55, N 44, N 28])) (.node (.pk (nat_lit 4503599627632640) (nat_lit 6)) .nil .nil) .nil))) (.node (.ob (.inst [N 2, N 3, N 6, N 63, .bool false, .bool false, .ref 3, .ref 4, .ref 5, .ref 13, .ref 7, .ref 10, .ref 11, .ref 22])) (.node (.ob (.list [N 3, N 12, N 48])) (.node (.ob (.list [N 8, N 4, N 32, N 16, N 0, N 0])) (.node (.pk (nat_lit 12089350430429614543208448) (nat_lit 6)) .nil .nil) .nil) (.node (.ob (.list [])) (.node (.pk (nat_lit 4835703278739991675535360) (nat_lit 6)) .nil .nil) .nil)) (.node (.ob (.list [])) (.node (.ob (.list [.ref 8, .ref 9])) (.node (.pk (nat_lit 137438953480) (nat_lit 6)) .nil .nil) .nil) (.node (.pk (nat_lit 9007267976839188) (nat_lit 6)) (.node (.pk (nat_lit 0) (nat_lit 6)) .nil .nil) .nil)))) (nat_lit 23) (nat_lit 0)
theorem r23 : ∀ xs kn kr kb kc, b_law_5 (l₄ 2 3 6 false false) (η₁ xs) kn kr kb kc = kn [.unb, .ref 0, N 2, N 3, N 6, .bool false, .bool false, .ref 2, .unb, .unb, .unb, .unb, .unb, .unb, .unb, .unb, .unb, .unb, .unb, .unb, .unb, .unb, .unb, .unb, .unb, .unb] (H23 xs) := fun xs kn kr kb kc => by kernel_rfl
theorem m23 (xs : List V) : Made G23 false false xs (H23 xs) 2 13 10 8 where
  run := fun kn kr kb kc => r23 xs kn kr kb kc
  r := rfl
  n := by show 0 < 23; decide
  s0 := rfl
  F := ⟨⟨⟨by show 2 < 23; decide, by show 2 ≠ 23; decide⟩, ⟨by show 13 < 23; decide, by show 13 ≠ 23; decide⟩, ⟨by show 10 < 23; decide, by show 10 ≠ 23; decide⟩, ⟨by show 8 < 23; decide, by show 8 ≠ 23; decide⟩⟩, ⟨_, rfl, rfl, rfl, rfl, rfl, rfl, rfl, rfl⟩, ⟨_, rfl, get_rng (sz := 6) (by kernel_rfl)⟩, ⟨_, rfl⟩, ⟨_, rfl, get_rng (sz := 6) (by kernel_rfl)⟩⟩
noncomputable def H24 (xs : List V) : H := H.mk (.node (.ob (.list xs)) (.node (.ob (.list [(.tup [N 2, N 3]), (.tup [N 2, N 4]), (.tup [N 3, N 3]), (.tup [N 2, N 5])])) (.node (.ob (.list [N 85, N 170])) (.node (.ob (.list [N 32, N 16, N 128, N 64, N 2, N 1, N 8, N 4])) (.node (.pk (nat_lit 10141204802416131022366691033090) (nat_lit 8)) .nil .nil) .nil) (.node (.ob (.list [.none, .none, .none, .none])) (.node (.pk (nat_lit 2535301200604032755591672758272) (nat_lit 8)) .nil .nil) .nil)) (.node (.ob (.list [.ref 14, .ref 15, .ref 16, .ref 17, .ref 18, .ref 19, .ref 20, .ref 21])) (.node (.ob (.list [N 0, N 0, N 2, N 1, N 8, N 4, N 32, N 16])) (.node (.pk (nat_lit 332306998965571781340911731772293120) (nat_lit 8)) .nil .nil) .nil) (.node (.ob (.list [N 14, N 13, N 59, N 55, N 236, N 220, N 176, N 112])) (.node (.pk (nat_lit 77371252459839866808827904) (nat_lit 8)) .nil .nil) .nil))) (.node (.ob (.inst [N 2, N 4, N 8, N 255, .bool false, .bool false, .ref 3, .ref 4, .ref 5, .ref 13, .ref 7, .ref 10, .ref 11, .ref 22])) (.node (.ob (.list [N 3, N 12, N 48, N 192])) (.node (.ob (.list [N 8, N 4, N 32, N 16, N 128, N 64, N 0, N 0])) (.node (.pk (nat_lit 218078131861964910379799924793409536) (nat_lit 8)) .nil .nil) .nil) (.node (.ob (.list [])) (.node (.pk (nat_lit 83076749741392945335227932943056896) (nat_lit 8)) .nil .nil) .nil)) (.node (.ob (.list [])) (.node (.ob (.list [.ref 8, .ref 9])) (.node (.pk (nat_lit 2361183241572261560328) (nat_lit 8)) .nil .nil) .nil) (.node (.pk (nat_lit 154743685547329591655792724) (nat_lit 8)) (.node (.pk (nat_lit 0) (nat_lit 8)) .nil .nil) .nil)))) (nat_lit 23) (nat_lit 0)
theorem r24 : ∀ xs kn kr kb kc, b_law_5 (l₄ 2 4 8 false false) (η₁ xs) kn kr kb kc = kn [.unb, .ref 0, N 2, N 4, N 8, .bool false, .bool false, .ref 2, .unb, .unb, .unb, .unb, .unb, .unb, .unb, .unb, .unb, .unb, .unb, .unb, .unb, .unb, .unb, .unb, .unb, .unb] (H24 xs) := fun xs kn kr kb kc => by kernel_rfl
theorem m24 (xs : List V) : Made G24 false false xs (H24 xs) 2 13 10 8 where
  run := fun kn kr kb kc => r24 xs kn kr kb kc
  r := rfl
  n := by show 0 < 23; decide
  s0 := rfl
  F := ⟨⟨⟨by show 2 < 23; decide, by show 2 ≠ 23; decide⟩, ⟨by show 13 < 23; decide, by show 13 ≠ 23; decide⟩, ⟨by show 10 < 23; decide, by show 10 ≠ 23; decide⟩, ⟨by show 8 < 23; decide, by show 8 ≠ 23; decide⟩⟩, ⟨_, rfl, rfl, rfl, rfl, rfl, rfl, rfl, rfl⟩, ⟨_, rfl, get_rng (sz := 8) (by kernel_rfl)⟩, ⟨_, rfl⟩, ⟨_, rfl, get_rng (sz := 8) (by kernel_rfl)⟩⟩
noncomputable def H33 (xs : List V) : H := H.mk (.node (.ob (.list xs)) (.node (.ob (.list [(.tup [N 2, N 3]), (.tup [N 2, N 4]), (.tup [N 3, N 3]), (.tup [N 2, N 5])])) (.node (.ob (.list [N 73, N 146, N 292])) (.node (.ob (.list [N 160, N 320, N 136, N 260, N 0, N 65, N 34, N 5, N 10])) (.node (.pk (nat_lit 1329258419399321940718764138745298950) (nat_lit 9)) .nil .nil) .nil) (.node (.ob (.list [.none, .none, .none, .none])) (.node (.pk (nat_lit 166155084036364843187266998205677568) (nat_lit 9)) .nil .nil) .nil)) (.node (.ob (.list [.ref 14, .ref 15, .ref 16, .ref 17, .ref 18, .ref 19, .ref 20, .ref 21])) (.node (.ob (.list [N 0, N 0, N 0, N 2, N 5, N 2, N 16, N 40, N 16])) (.node (.pk (nat_lit 65334546755819160228303395282367321014272) (nat_lit 9)) .nil .nil) .nil) (.node (.ob (.list [N 26, N 61, N 50, N 211, N 495, N 406, N 152, N 376, N 176])) (.node (.pk (nat_lit 154743685502293595371601920) (nat_lit 9)) .nil .nil) .nil))) (.node (.ob (.inst [N 3, N 3, N 9, N 511, .bool false, .bool false, .ref 3, .ref 4, .ref 5, .ref 13, .ref 7, .ref 10, .ref 11, .ref 22])) (.node (.ob (.list [N 7, N 56, N 448])) (.node (.ob (.list [N 16, N 40, N 16, N 128, N 320, N 128, N 0, N 0, N 0])) (.node (.pk (nat_lit 12250258671210296609947350682958571765760) (nat_lit 9)) .nil .nil) .nil) (.node (.ob (.list [])) (.node (.pk (nat_lit 5784841776030824575368482543642752319488) (nat_lit 9)) .nil .nil) .nil)) (.node (.ob (.list [])) (.node (.ob (.list [.ref 8, .ref 9])) (.node (.pk (nat_lit 4722402511666666275088) (nat_lit 9)) .nil .nil) .nil) (.node (.pk (nat_lit 309487371022602139016888392) (nat_lit 9)) (.node (.pk (nat_lit 0) (nat_lit 9)) .nil .nil) .nil)))) (nat_lit 23) (nat_lit 0)
theorem r33 : ∀ xs kn kr kb kc, b_law_5 (l₄ 3 3 9 false false) (η₁ xs) kn kr kb kc = kn [.unb, .ref 0, N 3, N 3, N 9, .bool false, .bool false, .ref 2, .unb, .unb, .unb, .unb, .unb, .unb, .unb, .unb, .unb, .unb, .unb, .unb, .unb, .unb, .unb, .unb, .unb, .unb] (H33 xs) := fun xs kn kr kb kc => by kernel_rfl
theorem m33 (xs : List V) : Made G33 false false xs (H33 xs) 2 13 10 8 where
  run := fun kn kr kb kc => r33 xs kn kr kb kc
  r := rfl
  n := by show 0 < 23; decide
  s0 := rfl
  F := ⟨⟨⟨by show 2 < 23; decide, by show 2 ≠ 23; decide⟩, ⟨by show 13 < 23; decide, by show 13 ≠ 23; decide⟩, ⟨by show 10 < 23; decide, by show 10 ≠ 23; decide⟩, ⟨by show 8 < 23; decide, by show 8 ≠ 23; decide⟩⟩, ⟨_, rfl, rfl, rfl, rfl, rfl, rfl, rfl, rfl⟩, ⟨_, rfl, get_rng (sz := 9) (by kernel_rfl)⟩, ⟨_, rfl⟩, ⟨_, rfl, get_rng (sz := 9) (by kernel_rfl)⟩⟩
noncomputable def H25d (xs : List V) : H := H.mk (.node (.ob (.list xs)) (.node (.ob (.list [(.tup [N 2, N 3]), (.tup [N 2, N 4]), (.tup [N 3, N 3]), (.tup [N 2, N 5])])) (.node (.ob (.list [N 341, N 682])) (.node (.ob (.list [N 32, N 16, N 128, N 64, N 514, N 257, N 8, N 4, N 32, N 16])) (.node (.pk (nat_lit 174224571873661698095663930027432015298562) (nat_lit 10)) .nil .nil) .nil) (.node (.ob (.list [.none, .none, .none, .none])) (.node (.pk (nat_lit 43556142968415424523915982506858003824640) (nat_lit 10)) .nil .nil) .nil)) (.node (.ob (.list [.ref 14, .ref 15, .ref 16, .ref 17, .ref 18, .ref 19, .ref 20, .ref 21])) (.node (.ob (.list [N 0, N 0, N 2, N 1, N 8, N 4, N 32, N 16, N 128, N 64])) (.node (.pk (nat_lit 5708990771156146523198715659138892277303279616) (nat_lit 10)) .nil .nil) .nil) (.node (.ob (.list [N 14, N 13, N 59, N 55, N 236, N 220, N 944, N 880, N 704, N 448])) (.node (.pk (nat_lit 1329227995862287125363646927089172480) (nat_lit 10)) .nil .nil) .nil))) (.node (.ob (.inst [N 2, N 5, N 10, N 1023, .bool true, .bool false, .ref 3, .ref 4, .ref 5, .ref 13, .ref 7, .ref 10, .ref 11, .ref 22])) (.node (.ob (.list [N 3, N 12, N 48, N 192, N 768])) (.node (.ob (.list [N 8, N 4, N 32, N 16, N 128, N 64, N 512, N 256, N 0, N 0])) (.node (.pk (nat_lit 3791155607969472345692431403571653081108054016) (nat_lit 10)) .nil .nil) .nil) (.node (.ob (.list [])) (.node (.pk (nat_lit 1427247692789036630799678914784723069325803520) (nat_lit 10)) .nil .nil) .nil)) (.node (.ob (.list [])) (.node (.ob (.list [.ref 8, .ref 9])) (.node (.pk (nat_lit 40564819209664524089466764132360) (nat_lit 10)) .nil .nil) .nil) (.node (.pk (nat_lit 2658476274753153825178656954183582036) (nat_lit 10)) (.node (.pk (nat_lit 0) (nat_lit 10)) .nil .nil) .nil)))) (nat_lit 23) (nat_lit 0)
theorem r25d : ∀ xs kn kr kb kc, b_law_5 (l₄ 2 5 10 true true) (η₁ xs) kn kr kb kc = kn [.unb, .ref 0, N 2, N 5, N 10, .bool true, .bool true, .ref 2, .unb, .unb, .unb, .unb, .unb, .unb, .unb, .unb, .unb, .unb, .unb, .unb, .unb, .unb, .unb, .unb, .unb, .unb] (H25d xs) := fun xs kn kr kb kc => by kernel_rfl
theorem m25d (xs : List V) : Made G25d true true xs (H25d xs) 2 13 10 8 where
  run := fun kn kr kb kc => r25d xs kn kr kb kc
  r := rfl
  n := by show 0 < 23; decide
  s0 := rfl
  F := ⟨⟨⟨by show 2 < 23; decide, by show 2 ≠ 23; decide⟩, ⟨by show 13 < 23; decide, by show 13 ≠ 23; decide⟩, ⟨by show 10 < 23; decide, by show 10 ≠ 23; decide⟩, ⟨by show 8 < 23; decide, by show 8 ≠ 23; decide⟩⟩, ⟨_, rfl, rfl, rfl, rfl, rfl, rfl, rfl, rfl⟩, ⟨_, rfl, get_rng (sz := 10) (by kernel_rfl)⟩, ⟨_, rfl⟩, ⟨_, rfl, get_rng (sz := 10) (by kernel_rfl)⟩⟩
noncomputable def H25s (xs : List V) : H := H.mk (.node (.ob (.list xs)) (.node (.ob (.list [(.tup [N 2, N 3]), (.tup [N 2, N 4]), (.tup [N 3, N 3]), (.tup [N 2, N 5])])) (.node (.ob (.list [N 341, N 682])) (.node (.ob (.list [N 32, N 16, N 128, N 64, N 514, N 257, N 8, N 4, N 32, N 16])) (.node (.pk (nat_lit 174224571873661698095663930027432015298562) (nat_lit 10)) .nil .nil) .nil) (.node (.ob (.list [.none, .none, .none, .none])) (.node (.pk (nat_lit 43556142968415424523915982506858003824640) (nat_lit 10)) .nil .nil) .nil)) (.node (.ob (.list [.ref 14, .ref 15, .ref 16, .ref 17, .ref 18, .ref 19, .ref 20, .ref 21])) (.node (.ob (.list [N 0, N 0, N 2, N 1, N 8, N 4, N 32, N 16, N 128, N 64])) (.node (.pk (nat_lit 5708990771156146523198715659138892277303279616) (nat_lit 10)) .nil .nil) .nil) (.node (.ob (.list [N 14, N 13, N 59, N 55, N 236, N 220, N 944, N 880, N 704, N 448])) (.node (.pk (nat_lit 1329227995862287125363646927089172480) (nat_lit 10)) .nil .nil) .nil))) (.node (.ob (.inst [N 2, N 5, N 10, N 1023, .bool false, .bool false, .ref 3, .ref 4, .ref 5, .ref 13, .ref 7, .ref 10, .ref 11, .ref 22])) (.node (.ob (.list [N 3, N 12, N 48, N 192, N 768])) (.node (.ob (.list [N 8, N 4, N 32, N 16, N 128, N 64, N 512, N 256, N 0, N 0])) (.node (.pk (nat_lit 3791155607969472345692431403571653081108054016) (nat_lit 10)) .nil .nil) .nil) (.node (.ob (.list [])) (.node (.pk (nat_lit 1427247692789036630799678914784723069325803520) (nat_lit 10)) .nil .nil) .nil)) (.node (.ob (.list [])) (.node (.ob (.list [.ref 8, .ref 9])) (.node (.pk (nat_lit 40564819209664524089466764132360) (nat_lit 10)) .nil .nil) .nil) (.node (.pk (nat_lit 2658476274753153825178656954183582036) (nat_lit 10)) (.node (.pk (nat_lit 0) (nat_lit 10)) .nil .nil) .nil)))) (nat_lit 23) (nat_lit 0)
theorem r25s : ∀ xs kn kr kb kc, b_law_5 (l₄ 2 5 10 true false) (η₁ xs) kn kr kb kc = kn [.unb, .ref 0, N 2, N 5, N 10, .bool true, .bool false, .ref 2, .unb, .unb, .unb, .unb, .unb, .unb, .unb, .unb, .unb, .unb, .unb, .unb, .unb, .unb, .unb, .unb, .unb, .unb] (H25s xs) := fun xs kn kr kb kc => by kernel_rfl
theorem m25s (xs : List V) : Made G25s true false xs (H25s xs) 2 13 10 8 where
  run := fun kn kr kb kc => r25s xs kn kr kb kc
  r := rfl
  n := by show 0 < 23; decide
  s0 := rfl
  F := ⟨⟨⟨by show 2 < 23; decide, by show 2 ≠ 23; decide⟩, ⟨by show 13 < 23; decide, by show 13 ≠ 23; decide⟩, ⟨by show 10 < 23; decide, by show 10 ≠ 23; decide⟩, ⟨by show 8 < 23; decide, by show 8 ≠ 23; decide⟩⟩, ⟨_, rfl, rfl, rfl, rfl, rfl, rfl, rfl, rfl⟩, ⟨_, rfl, get_rng (sz := 10) (by kernel_rfl)⟩, ⟨_, rfl⟩, ⟨_, rfl, get_rng (sz := 10) (by kernel_rfl)⟩⟩
theorem q23_s_0 : smallK G23 F23 (psN G23) (List.range G23.sz) (PLs G23 0) = true := by
  have e : PLs G23 0 = plP [(nat_lit 0), (nat_lit 1), (nat_lit 2), (nat_lit 3), (nat_lit 4), (nat_lit 5)] [(nat_lit 2)] := (plP_eq [(nat_lit 0), (nat_lit 1), (nat_lit 2), (nat_lit 3), (nat_lit 4), (nat_lit 5)] [(nat_lit 2)]).symm
  rw [ps23, rl23, e]; exact s23_0
theorem q23_s_1 : smallK G23 F23 (psN G23) (List.range G23.sz) (PLs G23 1) = true := by
  have e : PLs G23 1 = plP [(nat_lit 0), (nat_lit 1), (nat_lit 2), (nat_lit 3), (nat_lit 4), (nat_lit 5)] [(nat_lit 3)] := (plP_eq [(nat_lit 0), (nat_lit 1), (nat_lit 2), (nat_lit 3), (nat_lit 4), (nat_lit 5)] [(nat_lit 3)]).symm
  rw [ps23, rl23, e]; exact s23_1
theorem q24_s_0 : smallK G24 F24 (psN G24) (List.range G24.sz) (PLs G24 0) = true := by
  have e : PLs G24 0 = plP [(nat_lit 0), (nat_lit 1), (nat_lit 2), (nat_lit 3), (nat_lit 4), (nat_lit 5), (nat_lit 6), (nat_lit 7)] [(nat_lit 2), (nat_lit 4)] := (plP_eq [(nat_lit 0), (nat_lit 1), (nat_lit 2), (nat_lit 3), (nat_lit 4), (nat_lit 5), (nat_lit 6), (nat_lit 7)] [(nat_lit 2), (nat_lit 4)]).symm
  rw [ps24, rl24, e]; exact s24_0
theorem q24_s_1 : smallK G24 F24 (psN G24) (List.range G24.sz) (PLs G24 1) = true := by
  have e : PLs G24 1 = plP [(nat_lit 0), (nat_lit 1), (nat_lit 2), (nat_lit 3), (nat_lit 4), (nat_lit 5), (nat_lit 6), (nat_lit 7)] [(nat_lit 3), (nat_lit 5)] := (plP_eq [(nat_lit 0), (nat_lit 1), (nat_lit 2), (nat_lit 3), (nat_lit 4), (nat_lit 5), (nat_lit 6), (nat_lit 7)] [(nat_lit 3), (nat_lit 5)]).symm
  rw [ps24, rl24, e]; exact s24_1
theorem q33_s_0 : smallK G33 F33 (psN G33) (List.range G33.sz) (PLs G33 0) = true := by
  have e : PLs G33 0 = plP [(nat_lit 0), (nat_lit 1), (nat_lit 2), (nat_lit 3), (nat_lit 4), (nat_lit 5), (nat_lit 6), (nat_lit 7), (nat_lit 8)] [(nat_lit 3)] := (plP_eq [(nat_lit 0), (nat_lit 1), (nat_lit 2), (nat_lit 3), (nat_lit 4), (nat_lit 5), (nat_lit 6), (nat_lit 7), (nat_lit 8)] [(nat_lit 3)]).symm
  rw [ps33, rl33, e]; exact s33_0
theorem q33_s_1 : smallK G33 F33 (psN G33) (List.range G33.sz) (PLs G33 1) = true := by
  have e : PLs G33 1 = plP [(nat_lit 0), (nat_lit 1), (nat_lit 2), (nat_lit 3), (nat_lit 4), (nat_lit 5), (nat_lit 6), (nat_lit 7), (nat_lit 8)] [(nat_lit 4)] := (plP_eq [(nat_lit 0), (nat_lit 1), (nat_lit 2), (nat_lit 3), (nat_lit 4), (nat_lit 5), (nat_lit 6), (nat_lit 7), (nat_lit 8)] [(nat_lit 4)]).symm
  rw [ps33, rl33, e]; exact s33_1
theorem q33_s_2 : smallK G33 F33 (psN G33) (List.range G33.sz) (PLs G33 2) = true := by
  have e : PLs G33 2 = plP [(nat_lit 0), (nat_lit 1), (nat_lit 2), (nat_lit 3), (nat_lit 4), (nat_lit 5), (nat_lit 6), (nat_lit 7), (nat_lit 8)] [(nat_lit 5)] := (plP_eq [(nat_lit 0), (nat_lit 1), (nat_lit 2), (nat_lit 3), (nat_lit 4), (nat_lit 5), (nat_lit 6), (nat_lit 7), (nat_lit 8)] [(nat_lit 5)]).symm
  rw [ps33, rl33, e]; exact s33_2
theorem q25_d : localK G25d F25d (psN G25d) (List.range G25d.sz) true (plP [(nat_lit 0), (nat_lit 1), (nat_lit 2), (nat_lit 3), (nat_lit 4), (nat_lit 5), (nat_lit 6), (nat_lit 7), (nat_lit 8), (nat_lit 9)] [(nat_lit 2), (nat_lit 3), (nat_lit 4), (nat_lit 5), (nat_lit 6), (nat_lit 7)]) = true := by
  rw [ps25d, rl25d]; exact l25d
theorem on25_d : ∀ p, OnB G25d p → p ∈ plP [(nat_lit 0), (nat_lit 1), (nat_lit 2), (nat_lit 3), (nat_lit 4), (nat_lit 5), (nat_lit 6), (nat_lit 7), (nat_lit 8), (nat_lit 9)] [(nat_lit 2), (nat_lit 3), (nat_lit 4), (nat_lit 5), (nat_lit 6), (nat_lit 7)] := by
  intro p ⟨h1, h2, ⟨h3, h4⟩, h5⟩
  have h2 : p.st < 10 := h2
  have h3 : 2 ≤ p.pw := h3
  have h4 : p.pw < 8 := h4
  have h5 : p.wk < 10 := h5
  rw [plP_eq]
  have e : [(nat_lit 0), (nat_lit 1), (nat_lit 2), (nat_lit 3), (nat_lit 4), (nat_lit 5), (nat_lit 6), (nat_lit 7), (nat_lit 8), (nat_lit 9)] = List.range 10 := rfl
  have e2 : [(nat_lit 2), (nat_lit 3), (nat_lit 4), (nat_lit 5), (nat_lit 6), (nat_lit 7)] = (List.range 6).map (· + 2) := rfl
  rw [e, e2]
  simp only [List.mem_flatMap, List.mem_range, List.mem_map, List.mem_cons, List.not_mem_nil, or_false]
  refine ⟨p.pw, ⟨p.pw - 2, by omega, by omega⟩, p.st, h2, p.wk, h5, ?_⟩
  cases p with
  | mk sd st pw wk =>
    have : sd = 0 ∨ sd = 1 := by have : sd ≤ 1 := h1; omega
    rcases this with rfl | rfl <;> simp
theorem q25_s : localK G25s F25s (psN G25s) (List.range G25s.sz) false (plP [(nat_lit 0), (nat_lit 1), (nat_lit 2), (nat_lit 3), (nat_lit 4), (nat_lit 5), (nat_lit 6), (nat_lit 7), (nat_lit 8), (nat_lit 9)] [(nat_lit 2), (nat_lit 3), (nat_lit 4), (nat_lit 5), (nat_lit 6), (nat_lit 7)]) = true := by
  rw [ps25s, rl25s]; exact l25s
theorem on25_s : ∀ p, OnB G25s p → p ∈ plP [(nat_lit 0), (nat_lit 1), (nat_lit 2), (nat_lit 3), (nat_lit 4), (nat_lit 5), (nat_lit 6), (nat_lit 7), (nat_lit 8), (nat_lit 9)] [(nat_lit 2), (nat_lit 3), (nat_lit 4), (nat_lit 5), (nat_lit 6), (nat_lit 7)] := by
  intro p ⟨h1, h2, ⟨h3, h4⟩, h5⟩
  have h2 : p.st < 10 := h2
  have h3 : 2 ≤ p.pw := h3
  have h4 : p.pw < 8 := h4
  have h5 : p.wk < 10 := h5
  rw [plP_eq]
  have e : [(nat_lit 0), (nat_lit 1), (nat_lit 2), (nat_lit 3), (nat_lit 4), (nat_lit 5), (nat_lit 6), (nat_lit 7), (nat_lit 8), (nat_lit 9)] = List.range 10 := rfl
  have e2 : [(nat_lit 2), (nat_lit 3), (nat_lit 4), (nat_lit 5), (nat_lit 6), (nat_lit 7)] = (List.range 6).map (· + 2) := rfl
  rw [e, e2]
  simp only [List.mem_flatMap, List.mem_range, List.mem_map, List.mem_cons, List.not_mem_nil, or_false]
  refine ⟨p.pw, ⟨p.pw - 2, by omega, by omega⟩, p.st, h2, p.wk, h5, ?_⟩
  cases p with
  | mk sd st pw wk =>
    have : sd = 0 ∨ sd = 1 := by have : sd ≤ 1 := h1; omega
    rcases this with rfl | rfl <;> simp
end Kp
end
-- part KpLaw
section
set_option autoImplicit false
set_option linter.unusedVariables false
set_option maxRecDepth 100000
set_option Elab.async false
namespace Kp
open PySem PySem.W PyProof.Rows PySem.Calls

noncomputable def loc0 (l : Loc) : Loc := l.take 12 ++ [.unb, .unb, .unb, .unb, .unb, .unb, .unb, .unb, .unb, .unb, .unb, .unb, .unb, .unb]
theorem getV_app (a b : List V) (i : Nat) : getV (a ++ b) i = if i < a.length then getV a i else getV b (i - a.length) := by
  rw [getV_eq, getV_eq, getV_eq, List.getElem?_append]
  split <;> rfl
theorem getV_take (a : List V) (n i : Nat) : getV (a.take n) i = if i < n then getV a i else .unb := by
  rw [getV_eq, getV_eq, List.getElem?_take]
  split <;> rfl
theorem veq_of {a b : V} (h : veq a b = true) (ha : a ≠ .unb) : b = a ∧ (a = .none ∨ (∃ x, a = .bool x) ∨ (∃ x, a = .int x) ∨ ∃ n, a = .ref n) := by
  cases a with
  | unb => exact absurd rfl ha
  | none => cases b <;> first | exact ⟨rfl, .inl rfl⟩ | cases h
  | bool x => cases b with
    | bool y =>
      have h : bcase x y (bnt y) = true := h
      refine ⟨?_, .inr (.inl ⟨x, rfl⟩)⟩
      revert h; cases x <;> cases y <;> first | (intro _; rfl) | (intro h; cases h)
    | _ => cases h
  | int x => cases b with
    | int y =>
      have h : ieq x y = true := h
      rw [ieq_eq] at h
      exact ⟨by rw [eq_of_beq h], .inr (.inr (.inl ⟨x, rfl⟩))⟩
    | _ => cases h
  | ref x => cases b with
    | ref y =>
      have h : Nat.beq x y = true := h
      exact ⟨by rw [Nat.eq_of_beq_eq_true h], .inr (.inr (.inr ⟨x, rfl⟩))⟩
    | _ => cases h
  | tup _ => cases h
  | range _ _ _ => cases h
theorem same_of : ∀ (xs ys : List V) (n i : Nat), same xs n ys = true → i < n → getV xs i ≠ .unb → veq (getV xs i) (getV ys i) = true
  | [], ys, n, i, h, hi, hne => absurd rfl hne
  | x :: xs, ys, 0, i, h, hi, hne => by (first | lia | omega)
  | x :: xs, [], n + 1, i, h, hi, hne => by cases h
  | x :: xs, y :: ys, n + 1, i, h, hi, hne => by
    have h : bcase (veq x y) (same xs n ys) false = true := h
    obtain ⟨h1, h2⟩ := bc_of h
    cases i with
    | zero => exact h1
    | succ i => exact same_of xs ys n i h2 (by (first | lia | omega)) hne
section
variable {G : Base} {f : Fx} {n : Nat}
theorem SR.weaken {φ : Phi} {η : H} {L : Addr} {loc loc' : Loc} {s : Shared} (S : SR G f φ η L loc s) (h : ∀ i, getV loc' i ≠ .unb → getV loc' i = getV loc i) : SR G f φ η L loc' s := by
  obtain ⟨m, ns, hm⟩ := S.fr
  refine ⟨S.hr, S.above, S.out, S.outF, m, ns, fun i nm a b => ?_⟩
  obtain ⟨u, c, d⟩ := hm i nm a (by rw [← h i b]; exact b)
  exact ⟨u, c, by rw [h i b]; exact d⟩
theorem weakL_keeps (l : Loc) (i : Nat) (h : getV (weakL l) i ≠ .unb) : getV (weakL l) i = getV l i := by
  unfold weakL at h ⊢
  rw [getV_app, getV_take] at h ⊢
  by_cases c : i < (l.take 12).length
  · rw [if_pos c, if_pos (by rw [List.length_take] at c; (first | lia | omega))]
  · rw [if_neg c] at h ⊢
    by_cases c2 : 12 ≤ l.length
    · have e : (l.take 12).length = 12 := by rw [List.length_take]; (first | lia | omega)
      rw [e] at h c ⊢
      obtain ⟨j, rfl⟩ : ∃ j, i = 12 + j := ⟨i - 12, by (first | lia | omega)⟩
      have e2 : 12 + j - 12 = j := by (first | lia | omega)
      rw [e2] at h ⊢
      rcases j with _ | _ | _ | _ | _ | _ | _ | _ | _ | _ | _ | _ | _ | _ | j <;> first | exact absurd rfl h | rfl
    · have e : (l.take 12).length = l.length := by rw [List.length_take]; (first | lia | omega)
      rw [e] at h c ⊢
      exfalso
      apply h
      have z : ∀ i, 12 ≤ i → getV l i = .unb := fun i q => getV_ge l i (by (first | lia | omega))
      unfold tail14
      rw [z 13 (by (first | lia | omega)), z 14 (by (first | lia | omega)), z 15 (by (first | lia | omega)), z 16 (by (first | lia | omega)), z 21 (by (first | lia | omega))]
      exact getV_rep 14 _
theorem loc0_keeps (l : Loc) (i : Nat) (h : getV (loc0 l) i ≠ .unb) : getV (loc0 l) i = getV l i ∧ i < 12 := by
  unfold loc0 at h ⊢
  rw [getV_app, getV_take] at h ⊢
  by_cases c : i < (l.take 12).length
  · have : i < 12 := by rw [List.length_take] at c; (first | lia | omega)
    rw [if_pos c, if_pos this]; exact ⟨rfl, this⟩
  · rw [if_neg c] at h
    exfalso
    apply h
    exact getV_rep 14 _
theorem SSX.weak {base : Heap} {outer : List Env} {kx : Bool} {m : XS} {st : Stmt} (x : SSX base outer kx G f n m st) : SSX base outer kx G f n (fun l h kn _ _ _ => m (weakL l) h kn noR no2 no2) st :=
  fun A L φ η loc s kn kr kb kc hA hfr hF ap S h => wpAny_mono (x A L φ η (weakL loc) s kn noR no2 no2 hA hfr hF ap (S.weaken (weakL_keeps loc)) h) (fun fl s' z => by
    obtain ⟨φ', η', y, z⟩ := z
    refine ⟨φ', η', y, ?_⟩
    cases fl with
    | next => exact z
    | ret u => obtain ⟨_, _, _, z⟩ := z; cases z
    | brk => obtain ⟨_, _, z⟩ := z; cases z
    | cont => obtain ⟨_, _, z⟩ := z; cases z) fun _ _ z => z

-- one turn of the law's loop
theorem turn_sound {base : Heap} {bodyX : XS} {body : List Stmt} (hbody : ∀ (h0 : Heap) (L : Addr) (k : Nat), BSX base [] false (refz G h0 L k) f n bodyX body)
    {A : Around} {L : Addr} {φ : Phi} {η : H} {loc : Loc} {s : Shared} (hA : Room A n) (hfr : A.frames = some [f.env L]) (S : SR G f φ η L loc s)
    (hb : bodyX loc ⟨η.t, η.n, η.n⟩ (fun l' _ => same loc 12 l') noR no2 (fun l' _ => same loc 12 l') = true) :
    wpAny G.M A (execs body (f.env L)) (fun fl s' => (fl = .next ∨ fl = .cont) ∧ SR G f φ η L (loc0 loc) s' ∧ StepL L φ φ s s') NoE s := by
  have S' := S.refz
  have fin : ∀ (φ' : Phi) (η' : H) (loc' : Loc) (s' : Shared), StepL L φ φ' s s' → SR (refz G s.heap L η.n) f φ' η' L loc' s' → same loc 12 loc' = true → SR G f φ η L (loc0 loc) s' ∧ StepL L φ φ s s' := by
    intro φ' η' loc' s' y S2 hs
    obtain ⟨m, ns, hm⟩ := S2.fr
    have S0 : SR G f φ η L (loc0 loc) s := S.weaken fun i h => (loc0_keeps loc i h).1
    refine S0.back S2.hr.frz y.gens y.drawn y.os ns fun i nm a b => ?_
    obtain ⟨e1, hi⟩ := loc0_keeps loc i b
    rw [e1] at b ⊢
    obtain ⟨e2, hk⟩ := veq_of (same_of loc loc' 12 i hs hi b) b
    obtain ⟨u, c, d⟩ := hm i nm a (by rw [e2]; exact b)
    rw [e2] at d
    refine ⟨u, c, ?_⟩
    rcases hk with hk | ⟨x, hk⟩ | ⟨x, hk⟩ | ⟨x, hk⟩ <;> rw [hk] at d ⊢
    · exact d
    · exact d
    · exact d
    · obtain ⟨m0, ns0, hm0⟩ := S.fr
      obtain ⟨u0, _, d0⟩ := hm0 i nm a b
      rw [hk] at d0
      obtain ⟨a0, dd0, p0, _⟩ := d0
      obtain ⟨a1, dd1, p1, hu⟩ := d
      have p2 := pre_get y.pre p0
      rw [p2] at p1
      cases p1
      exact ⟨a0, dd0, p0, hu⟩
  refine wpAny_mono (hbody s.heap L η.n A L φ ⟨η.t, η.n, η.n⟩ loc s _ _ _ _ hA hfr (fun _ h => by cases h) (fun _ h => by cases h) S' hb) (fun fl s' z => ?_) fun e s' z => ?_
  · obtain ⟨φ', η', y, z⟩ := z
    cases fl with
    | next => obtain ⟨loc', S2, hs⟩ := z; exact ⟨.inl rfl, fin φ' η' loc' s' y S2 hs⟩
    | cont => obtain ⟨loc', S2, hs⟩ := z; exact ⟨.inr rfl, fin φ' η' loc' s' y S2 hs⟩
    | brk => obtain ⟨loc', S2, hs⟩ := z; cases hs
    | ret u => obtain ⟨v, _, _, hs⟩ := z; cases hs
  · exact absurd z.1 (by decide)

-- the loop's body as a combinator of its own
open Classical in
noncomputable def turnX (bodyX : XS) : XS := fun l h kn _ _ kc => decide (bodyX l ⟨h.t, h.n, h.n⟩ (fun l' _ => same l 12 l') noR no2 (fun l' _ => same l 12 l') = true ∧ kn (loc0 l) h = true ∧ kc (loc0 l) h = true)
theorem bsx_turn {base : Heap} {bodyX : XS} {body : List Stmt} (hbody : ∀ (h0 : Heap) (L : Addr) (k : Nat), BSX base [] false (refz G h0 L k) f n bodyX body) : BSX base [] false G f n (turnX bodyX) body := by
  intro A L φ η loc s kn kr kb kc hA hfr hF ap S h
  have h := of_decide_eq_true h
  refine wpAny_mono (turn_sound hbody hA hfr S h.1) (fun fl s' z => ?_) fun _ _ z => z.elim
  obtain ⟨z1, S', y⟩ := z
  refine ⟨φ, η, y, ?_⟩
  rcases z1 with rfl | rfl
  · exact ⟨_, S', h.2.1⟩
  · exact ⟨_, S', h.2.2⟩

-- statements that end the law well
noncomputable def FinS (G : Base) (f : Fx) (n : Nat) (m : KN) (sts : List Stmt) : Prop :=
  ∀ A L φ η loc s, Room A n → A.frames = some [f.env L] → SR G f φ η L loc s → m loc η = true →
    wpAny G.M A (execs sts (f.env L)) (fun fl s' => fl = .ret (.bool true) ∧ (∀ b o, G.h₀.get? b = some o → s'.heap.get? b = some o) ∧ s'.gens = s.gens ∧ s'.os = s.os) NoE s
theorem FinS.imp {m m' : KN} {sts : List Stmt} (x : FinS G f n m sts) (h : ∀ l η, m' l η = true → m l η = true) : FinS G f n m' sts := fun A L φ η loc s hA hfr S k => x A L φ η loc s hA hfr S (h _ _ k)
theorem fin_cons {m₁ : XS} {m : KN} {st : Stmt} {r : List Stmt} (h₁ : SS G f n m₁ st) (h₂ : FinS G f n m r) : FinS G f n (fun l h => m₁ l h m noR no2 no2) (st :: r) := by
  intro A L φ η loc s hA hfr S h
  refine wpAny_execs_cons (wpAny_mono (h₁ A L φ η loc s m noR no2 no2 hA S h) (fun fl s' x => ?_) fun _ _ z => z)
  obtain ⟨φ', η', st1, y⟩ := x
  cases fl with
  | next =>
    obtain ⟨loc', S', k⟩ := y
    exact wpAny_mono (h₂ A L φ' η' loc' s' hA hfr S' k) (fun fl s'' z => ⟨z.1, z.2.1, z.2.2.1.trans st1.gens, z.2.2.2.trans st1.os⟩) fun _ _ z => z
  | ret u => obtain ⟨_, _, _, z⟩ := y; cases z
  | brk => obtain ⟨_, _, z⟩ := y; cases z
  | cont => obtain ⟨_, _, z⟩ := y; cases z
theorem fin_consX {base : Heap} {m₁ : XS} {m : KN} {st : Stmt} {r : List Stmt} (h₁ : SSX base [] false G f n m₁ st) (h₂ : FinS G f n m r) : FinS G f n (fun l h => m₁ l h m noR no2 no2) (st :: r) := by
  intro A L φ η loc s hA hfr S h
  refine wpAny_execs_cons (wpAny_mono (h₁ A L φ η loc s m noR no2 no2 hA hfr (fun _ h => by cases h) (fun _ h => by cases h) S h) (fun fl s' x => ?_) fun _ _ z => absurd z.1 (by decide))
  obtain ⟨φ', η', st1, y⟩ := x
  cases fl with
  | next =>
    obtain ⟨loc', S', k⟩ := y
    exact wpAny_mono (h₂ A L φ' η' loc' s' hA hfr S' k) (fun fl s'' z => ⟨z.1, z.2.1, z.2.2.1.trans st1.gens, z.2.2.2.trans st1.os⟩) fun _ _ z => z
  | ret u => obtain ⟨_, _, _, z⟩ := y; cases z
  | brk => obtain ⟨_, _, z⟩ := y; cases z
  | cont => obtain ⟨_, _, z⟩ := y; cases z
theorem fin_ret {k : Nat} {p pos : Pos} : FinS G f n (fun _ _ => true) [.Return (some (.Constant (.bool true) k p)) pos] := by
  intro A L φ η loc s hA hfr S h
  refine wpAny_execs_cons (wpAny_Return_some (wpAny_Constant_bool ?_))
  exact ⟨rfl, S.hr.keep, rfl, rfl⟩
end
end Kp
end
-- part KpBool
section
set_option autoImplicit false
set_option linter.unusedVariables false
set_option maxRecDepth 100000
set_option Elab.async false
namespace Kp
open PySem PySem.W PyProof.Rows PySem.Calls

-- the loop's body
noncomputable def bodyX : XS := sseq b_loop_0 (sseq b_loop_1 (sseq b_loop_2 (sseq b_loop_3 (sseq b_loop_4 (sseq b_loop_5 (sseq b_loop_6 (sseq b_loop_7 (sseq b_loop_8 (sseq b_loop_9 (sseq b_loop_10 (sseq b_loop_11 (sseq b_loop_12 fun l h kn _ _ _ => b_loop_13 (weakL l) h kn noR no2 no2))))))))))))
theorem sseq_assoc (a b c : XS) : sseq (sseq a b) c = sseq a (sseq b c) := rfl
theorem bodyX_eq : bodyX = sseq b_012 fun l h kn _ _ _ => b_loop_13 (weakL l) h kn noR no2 no2 := by
  unfold bodyX b_012 b_812
  simp only [sseq_assoc]
abbrev Cells (xs : List Int) : List V := xs.map V.int
section
variable {a0 a6 vb a9 a11 : V} {g : Nat} {fl rk sz col : Int} {lc : Bool} {h : H}
set_option maxHeartbeats 4000000 in
-- the loop over the drawn placings
theorem loop_bool (s : Shape fl rk sz) (G : Geo h g fl rk sz) (hv : vb ≠ .unb) {xs : List Int} (hs : h.t.get 0 = .list (Cells xs)) (hlen : xs.length ≤ 100) (hc : 0 ≤ col ∧ col < fl)
    (hsame : ∀ t t', t.length = 14 → t'.length = 14 → same (LC a0 a6 vb a9 a11 g fl rk sz col lc t) 12 (LC a0 a6 vb a9 a11 g fl rk sz col lc t') = true)
    (hQ : ∀ t, t.length = 14 → ∀ sd st pw wk : Int, sd = 0 ∨ sd = 1 → inR 0 st sz = true → inR 0 wk sz = true → inR fl pw (sz - fl) = true → (pw % fl = col ∨ pw % fl = fl - 1 - col) →
      f_probe_kpk [.ref g, vb, .int sd, .int st, .int pw, .int wk] ⟨h.t, h.n, h.n⟩ (fun v h' => b_loop_13 (LC a0 a6 vb a9 a11 g fl rk sz col lc (tail14 (.int sd) (.int st) (.int pw) (.int wk) v)) h' (fun l' _ => same (LC a0 a6 vb a9 a11 g fl rk sz col lc t) 12 l') noR no2 no2) = true) :
    ∀ (k at_ : Nat) (a12 a13 a14 a15 a16 a17 a18 a19 a20 a21 a22 a23 a24 a25 : V), (∀ j, j < k → at_ + 4 * j + 3 < xs.length) →
      forRange (tvar 18) (turnX bodyX) (fun _ _ => true) noR 4 k (at_ : Int) (LC a0 a6 vb a9 a11 g fl rk sz col lc [a12, a13, a14, a15, a16, a17, a18, a19, a20, a21, a22, a23, a24, a25]) h = true
  | 0, at_, a12, a13, a14, a15, a16, a17, a18, a19, a20, a21, a22, a23, a24, a25, _ => rfl
  | k + 1, at_, a12, a13, a14, a15, a16, a17, a18, a19, a20, a21, a22, a23, a24, a25, hk => by
    rw [forRange_succ]
    show setK (.int (at_ : Int)) (LC a0 a6 vb a9 a11 g fl rk sz col lc [a12, a13, a14, a15, a16, a17, a18, a19, a20, a21, a22, a23, a24, a25]) 18 _ = true
    rw [setK_eq, show setV (.int (at_ : Int)) (LC a0 a6 vb a9 a11 g fl rk sz col lc [a12, a13, a14, a15, a16, a17, a18, a19, a20, a21, a22, a23, a24, a25]) 18 = LC a0 a6 vb a9 a11 g fl rk sz col lc [a12, a13, a14, a15, a16, a17, .int (at_ : Int), a19, a20, a21, a22, a23, a24, a25] from rfl]
    have e : iadd (at_ : Int) 4 = ((at_ + 4 : Nat) : Int) := by rw [iadd_eq]; rfl
    have nx := loop_bool s G hv hs hlen hc hsame hQ k (at_ + 4) .unb .unb .unb .unb .unb .unb .unb .unb .unb .unb .unb .unb .unb .unb fun j hj => by have := hk (j + 1) (by (first | lia | omega)); (first | lia | omega)
    unfold turnX
    refine decide_eq_true ⟨?_, ?_, ?_⟩
    · rw [bodyX_eq]
      have h3 := hk 0 (by (first | lia | omega))
      refine p1_bool (h := ⟨h.t, h.n, h.n⟩) (xs := xs) (at_ := at_) (kN := fun l h => b_loop_13 l h (fun l' _ => same (LC a0 a6 vb a9 a11 g fl rk sz col lc [a12, a13, a14, a15, a16, a17, .int (at_ : Int), a19, a20, a21, a22, a23, a24, a25]) 12 l') noR no2 no2)
        s ⟨G.at_⟩ hv hs (by (first | lia | omega)) hlen hc (fun t ht => hsame _ _ rfl ht) fun sd st pw wk q1 q2 q3 q4 q5 => hQ _ rfl sd st pw wk q1 q2 q3 q4 q5
    · rw [e]; exact nx
    · rw [e]; exact nx

-- the run's end: all that the loop asks
noncomputable def rangeE : XE := xrange3 (xlit (.int (.ofNat 3))) (xbin osub (xlen (xloc 1)) (xlit (.int (.ofNat 3)))) (xlit (.int (.ofNat 4)))
noncomputable def m12 : KN := fun l h => sfor (tvar 18) rangeE (turnX bodyX) l h (fun _ _ => true) noR no2 no2
theorem ev_len {l : Loc} {h : H} {i n : Nat} {xs : List V} (e : getV l i = .ref n) (hn : h.t.get n = .list xs) (hl : xs.length ≤ 1000000) : Ev (xlen (xloc i)) l h (.int (xs.length : Int)) := fun k => by
  show xloc i l h (fun v h => asList v h fun _ xs => bcase (Nat.ble (lenV xs) 1000000) (k (.int (.ofNat (lenV xs))) h) false) = _
  rw [ev_ref e]
  show asList (.ref n) h _ = _
  have : asList (.ref n) h (fun _ xs => bcase (Nat.ble (lenV xs) 1000000) (k (.int (.ofNat (lenV xs))) h) false) = bcase (Nat.ble (lenV xs) 1000000) (k (.int (.ofNat (lenV xs))) h) false := by
    show @AO.rec (fun _ => Bool) false (fun xs => bcase (Nat.ble (lenV xs) 1000000) (k (.int (.ofNat (lenV xs))) h) false) (fun _ _ => false) (fun _ => false) (getT h n) = _
    rw [show getT h n = .list xs from hn]
  rw [this, lenV_eq, show Nat.ble xs.length 1000000 = true from Nat.ble_eq_true_of_le hl]
  rfl
theorem ev_range {l : Loc} {h : H} {a b c : XE} {i j : Int} (ha : Ev a l h (.int i)) (hb : Ev b l h (.int j)) (hc : Ev c l h (.int 4)) (b1 : i < 2 ^ 60) (b2 : -(2 ^ 60) ≤ i) (b3 : j < 2 ^ 60) (b4 : -(2 ^ 60) ≤ j) : Ev (xrange3 a b c) l h (.range i j 4) := fun k => by
  show a l h _ = _
  rw [ha]
  show b l h _ = _
  rw [hb]
  show c l h _ = _
  rw [hc]
  show small i (small j (bcase (stepOk 4) (k (.range i j 4) h) false) false) false = _
  rw [small_in b1 b2, small_in b3 b4]; rfl
theorem end_loop (s : Shape fl rk sz) (G : Geo h g fl rk sz) (hv : vb ≠ .unb) {xs : List Int} (hs : h.t.get 0 = .list (Cells xs)) (hlen : xs.length ≤ 100) (hc : 0 ≤ col ∧ col < fl)
    (hsame : ∀ t t', t.length = 14 → t'.length = 14 → same (LC a0 a6 vb a9 a11 g fl rk sz col lc t) 12 (LC a0 a6 vb a9 a11 g fl rk sz col lc t') = true)
    (hQ : ∀ t, t.length = 14 → ∀ sd st pw wk : Int, sd = 0 ∨ sd = 1 → inR 0 st sz = true → inR 0 wk sz = true → inR fl pw (sz - fl) = true → (pw % fl = col ∨ pw % fl = fl - 1 - col) →
      f_probe_kpk [.ref g, vb, .int sd, .int st, .int pw, .int wk] ⟨h.t, h.n, h.n⟩ (fun v h' => b_loop_13 (LC a0 a6 vb a9 a11 g fl rk sz col lc (tail14 (.int sd) (.int st) (.int pw) (.int wk) v)) h' (fun l' _ => same (LC a0 a6 vb a9 a11 g fl rk sz col lc t) 12 l') noR no2 no2) = true)
    (a12 a13 a14 a15 a16 a17 a18 a19 a20 a21 a22 a23 a24 a25 : V) : m12 (LC a0 a6 vb a9 a11 g fl rk sz col lc [a12, a13, a14, a15, a16, a17, a18, a19, a20, a21, a22, a23, a24, a25]) h = true := by
  unfold m12
  have er : Ev rangeE (LC a0 a6 vb a9 a11 g fl rk sz col lc [a12, a13, a14, a15, a16, a17, a18, a19, a20, a21, a22, a23, a24, a25]) h (.range 3 ((xs.length : Int) - 3) 4) := by
    have e1 := ev_len (l := LC a0 a6 vb a9 a11 g fl rk sz col lc [a12, a13, a14, a15, a16, a17, a18, a19, a20, a21, a22, a23, a24, a25]) (i := 1) rfl hs (by rw [List.length_map]; (first | lia | omega))
    rw [List.length_map] at e1
    exact ev_range (i := 3) (j := (xs.length : Int) - 3) ev_lit (ev_bin e1 ev_lit o_sub) ev_lit (by decide) (by decide) (by (first | lia | omega)) (by (first | lia | omega))
  refine (er _).trans ?_
  show forRange (tvar 18) (turnX bodyX) (fun _ _ => true) noR 4 (rcount 3 ((xs.length : Int) - 3) 4) 3 _ h = true
  have hr : ((rcount 3 ((xs.length : Int) - 3) 4 : Nat) : Int) = Builtin.Range.rangeSize 3 ((xs.length : Int) - 3) 4 := rcount_eq (.inl (by decide))
  unfold Builtin.Range.rangeSize at hr
  rw [if_pos (by decide)] at hr
  refine loop_bool s G hv hs hlen hc hsame hQ _ 3 _ _ _ _ _ _ _ _ _ _ _ _ _ _ fun j hj => ?_
  split at hr <;> (first | lia | omega)
end
end Kp
end
-- part KpTop
section
set_option autoImplicit false
set_option linter.unusedVariables false
set_option maxRecDepth 100000
set_option Elab.async false
namespace Kp
open PySem PySem.W PyProof.Rows PySem.Calls

noncomputable def m8 (K : KN) : KN := fun l h => b_law_8 l h (fun l h => b_law_9 l h (fun l h => b_law_10 l h (fun l h => b_law_11 l h K noR no2 no2) noR no2 no2) noR no2 no2) noR no2 no2
noncomputable def m5 (K : KN) : KN := fun l h => b_law_5 l h (fun l h => b_law_6 l h (fun l h => b_law_7 l h K noR no2 no2) noR no2 no2) noR no2 no2
noncomputable def m1 (K : KN) : KN := fun l h => b_law_1 l h (fun l h => b_law_2 l h (fun l h => b_law_3 l h (fun l h => b_law_4 l h K noR no2 no2) noR no2 no2) noR no2 no2) noR no2 no2
theorem sub_run {l : Loc} {h h' : H} {o i : XE} {n j : Nat} {xs : List V} {v : V} (ho : ∀ k, o l h k = k (.ref n) h') (hi : Ev i l h' (.int (j : Int))) (hn : h'.t.get n = .list xs) (hx : xs[j]? = some v) (hv : v ≠ .unb) (hj : j ≤ 1000000) (k : V → H → Bool) : xsub o i l h k = k v h' := by
  show o l h _ = _
  rw [ho]
  show i l h' _ = _
  rw [hi]
  refine (sub_so (getS h' n) _ _ _ _).trans ?_
  show objCase (getT h' n) _ _ _ = _
  rw [show getT h' n = .list xs from hn]
  show bcase (Nat.ble j 1000000) (known (getV xs j) _) false = _
  rw [show Nat.ble j 1000000 = true from Nat.ble_eq_true_of_le hj, getV_eq, hx]
  exact known_eq hv (fun v => k v h')
theorem run_unpack {is : List Nat} {e : XE} {l : Loc} {h h' : H} {vs : List V} {kn : KN} {kr : KR} {kb kc : KN} {X : Bool} (he : ∀ k, e l h k = k (.tup vs) h') (hX : sets is vs l (fun l => kn l h') = X) : sunpack is e l h kn kr kb kc = X := (he _).trans hX
theorem first_bool {flN rkN szN r : Nat} {lc db : Bool} {xs : List Int} {x0 x1 : Int} {K : KN} (e0 : xs[0]? = some x0) (e1 : xs[1]? = some x1) (h0 : x0 % 4 = (r : Int)) (ht : tuples[r]? = some (.tup [.int (.ofNat flN), .int (.ofNat rkN)])) (hr : r < 4)
    (hz : (szN : Int) = flN * rkN) (hf : flN ≤ 100) (hlc : decide ((rkN : Int) = 5) = lc) (hdb : (lc && decide (x1 % 2 = 0)) = db) (hK : K (l₄ flN rkN szN lc db) (η₁ (Cells xs)) = true) : m1 K l₀ (η₀ (Cells xs)) = true := by
  unfold m1 b_law_1
  refine run_unpack (h' := η₁ (Cells xs)) (vs := [.int (.ofNat flN), .int (.ofNat rkN)]) (fun k => sub_run (n := 1) (j := r) (xs := tuples) (fun k => rfl) ?_ rfl ht (fun z => by cases z) (by (first | lia | omega)) k) ?_
  · have := ev_bin (o := omod) (i := x0) (j := 4) (ev_item (l := l₀) (h := η₁ (Cells xs)) (n := 0) (j := 0) (ev_ref (i := 1) rfl) ev_lit rfl (by rw [List.getElem?_map, e0]; rfl) (fun z => by cases z) (by decide)) ev_lit (o_mod (by decide) (by decide))
    rw [h0] at this
    exact this
  · show b_law_2 [.unb, .ref 0, .int (.ofNat flN), .int (.ofNat rkN), .unb, .unb, .unb, .unb, .unb, .unb, .unb, .unb, .unb, .unb, .unb, .unb, .unb, .unb, .unb, .unb, .unb, .unb, .unb, .unb, .unb, .unb] (η₁ (Cells xs)) (fun l h => b_law_3 l h (fun l h => b_law_4 l h K noR no2 no2) noR no2 no2) noR no2 no2 = true
    unfold b_law_2
    refine run_setL (v := .int (.ofNat szN)) (l' := [.unb, .ref 0, .int (.ofNat flN), .int (.ofNat rkN), .int (.ofNat szN), .unb, .unb, .unb, .unb, .unb, .unb, .unb, .unb, .unb, .unb, .unb, .unb, .unb, .unb, .unb, .unb, .unb, .unb, .unb, .unb, .unb])
      (ev_bin (i := (flN : Int)) (j := (rkN : Int)) (ev_int (i := 2) rfl) (ev_int (i := 3) rfl) (fun k => by rw [o_mul (by (first | lia | omega)) (by (first | lia | omega)), ← hz]; rfl)) rfl ?_
    unfold b_law_3
    refine run_setL (v := .bool lc) (l' := [.unb, .ref 0, .int (.ofNat flN), .int (.ofNat rkN), .int (.ofNat szN), .bool lc, .unb, .unb, .unb, .unb, .unb, .unb, .unb, .unb, .unb, .unb, .unb, .unb, .unb, .unb, .unb, .unb, .unb, .unb, .unb, .unb])
      (ev_cmp (i := (rkN : Int)) (j := 5) (ev_int (i := 3) rfl) ev_lit ((c_eq _ _).trans hlc)) rfl ?_
    unfold b_law_4
    refine run_setL (v := .bool db) (l' := l₄ flN rkN szN lc db) ?_ rfl hK
    rw [← hdb]
    refine ev_and (ev_bool (i := 5) rfl) (ev_cmp (i := x1 % 2) (j := 0) (ev_bin (i := x1) (j := 2) (ev_item (n := 0) (j := 1) (ev_ref (i := 1) rfl) ev_lit rfl (by rw [List.getElem?_map, e1]; rfl) (fun z => by cases z) (by decide)) ev_lit (o_mod (by decide) (by decide))) ev_lit (c_eq _ _))
end Kp
end
-- part KpEnd
section
set_option autoImplicit false
set_option linter.unusedVariables false
set_option maxRecDepth 100000
set_option Elab.async false
namespace Kp
open PySem PySem.W PyProof.Rows PySem.Calls

noncomputable def base0 (w : World) (h₀ : Heap) (mg mb : Str → Option Value) (X : (kP w.params).In h₀) (lim : h₀.NoLimit) (g : h₀.Ns mainGlobals mg) (b : h₀.Ns builtinsNs mb)
    (nob : ∀ x : Str, x = "len" ∨ x = "abs" ∨ x = "min" ∨ x = "range" → mg x = none ∧ mb x = bootBuiltins x) : Base where
  prog := PySem.Challenge.rw_nt0434_01.row.prog
  w := w
  h₀ := h₀
  C := 184
  fI := 181
  mg := mg
  mb := mb
  K := kP w.params
  X := X
  lim := lim
  g := g
  b := b
  nob := nob
  cset := by kernel_rfl
  cover := by kernel_rfl
  cdict := by kernel_rfl
  ctake := by
    intro nm h
    simp only [fieldNames, List.mem_cons, List.not_mem_nil, or_false] at h
    rcases h with rfl | rfl | rfl | rfl | rfl | rfl | rfl | rfl | rfl | rfl | rfl | rfl | rfl | rfl <;> kernel_rfl
  cget := by
    intro nm h
    simp only [fieldNames, List.mem_cons, List.not_mem_nil, or_false] at h
    rcases h with rfl | rfl | rfl | rfl | rfl | rfl | rfl | rfl | rfl | rfl | rfl | rfl | rfl | rfl <;> kernel_rfl
  cfind := by
    intro nm h
    simp only [fieldNames, List.mem_cons, List.not_mem_nil, or_false] at h
    rcases h with rfl | rfl | rfl | rfl | rfl | rfl | rfl | rfl | rfl | rfl | rfl | rfl | rfl | rfl <;> exact ⟨none, by kernel_rfl, by kernel_rfl⟩
  cmake := by kernel_rfl
  cinit := by kernel_rfl
  cfn := by kernel_rfl
  fz := fun _ _ => False
  ro := 0

noncomputable def cells (ns : List Int) : List Int := ns.take 15 ++ (List.replicate (7 - (ns.length : Int)).toNat [0]).flatten
theorem cells_len (ns : List Int) : 7 ≤ (cells ns).length ∧ (cells ns).length ≤ 100 := by
  unfold cells
  have : ((List.replicate (7 - (ns.length : Int)).toNat [(0 : Int)]).flatten).length = (7 - (ns.length : Int)).toNat := by
    simp
  rw [List.length_append, List.length_take, this]
  (first | lia | omega)
-- after the first statement
noncomputable def AtS (h₀ : Heap) (L : Addr) (ns : List Int) (g : Array GenState) (os : OsState) (s : Shared) : Prop :=
  ∃ D ws m, PlainL s.heap D (List.toArray ws) ∧ IntsAre ws (cells ns) ∧ h₀.get? D = none ∧ sysModules < D ∧ D ≠ L ∧ Fr h₀ L s.heap m ∧ m "s" = some (.ref D) ∧ s.gens = g ∧ s.os = os
theorem vsr_ints {φ : Phi} {h : Heap} {ws : List Value} {ns : List Int} (x : IntsAre ws ns) : VsR φ h (Cells ns) ws := by
  induction x with
  | nil => rfl
  | cons n t _ ih => exact ⟨_, _, rfl, ⟨t, rfl⟩, ih⟩
abbrev lawNames : List Str := ["script", "s", "files", "ranks", "size", "is_local", "double", "geo", "base", "near", "column", "right", "place", "side", "strong", "pawn", "weak", "known", "at", "owner", "is_bad", "told", "sort", "out", "one", "wanted"]
theorem start_SR {w : World} {h₀ : Heap} {mg mb : Str → Option Value} {X : (kP w.params).In h₀} {lim : h₀.NoLimit} {g : h₀.Ns mainGlobals mg} {b : h₀.Ns builtinsNs mb} {nob : ∀ x : Str, x = "len" ∨ x = "abs" ∨ x = "min" ∨ x = "range" → mg x = none ∧ mb x = bootBuiltins x}
    {cs : Scope} {fa : Addr} {cd : Value} {L : Addr} {ns : List Int} {gs : Array GenState} {os : OsState} {s : Shared} (z : AtS h₀ L ns gs os s) :
    ∃ φ, SR (base0 w h₀ mg mb X lim g b nob) ⟨"law", cs, fa, cd, lawNames⟩ φ (η₀ (Cells (cells ns))) L l₀ s := by
  obtain ⟨D, ws, m, hp, hi, hn, hlow, hDL, F, hm, hg, hos⟩ := z
  refine ⟨[(D, D)], ⟨F.keep, rfl, fun i a d e => ?_, fun p hp' => ?_, by simp, fun _ _ e => e.elim, fun _ _ _ _ _ e => e.elim, rfl⟩, F.above, fun p hp' => ?_, fun _ e => e.elim, m, F.ns, fun i nm e hne => ?_⟩
  · cases i with
    | zero =>
      simp only [List.getElem?_cons_zero, Option.some.injEq, Prod.mk.injEq] at e
      obtain ⟨rfl, rfl⟩ := e
      exact ⟨rfl, ws, hp, vsr_ints hi⟩
    | succ i => simp at e
  · simp only [List.mem_singleton] at hp'
    subst hp'; exact ⟨hn, hlow⟩
  · simp only [List.mem_singleton] at hp'
    subst hp'; exact hDL
  · rcases i with _ | _ | i
    · exact absurd rfl hne
    · obtain rfl : ("s" : Str) = nm := by simpa using e
      exact ⟨.ref D, hm, D, D, rfl, rfl⟩
    · exfalso
      apply hne
      exact getV_rep 24 i

-- the law's statements, one by one
noncomputable def m2 (K : KN) : KN := fun l h => b_law_2 l h (fun l h => b_law_3 l h (fun l h => b_law_4 l h K noR no2 no2) noR no2 no2) noR no2 no2
noncomputable def m3 (K : KN) : KN := fun l h => b_law_3 l h (fun l h => b_law_4 l h K noR no2 no2) noR no2 no2
noncomputable def m4 (K : KN) : KN := fun l h => b_law_4 l h K noR no2 no2
noncomputable def m6 (K : KN) : KN := fun l h => b_law_6 l h (fun l h => b_law_7 l h K noR no2 no2) noR no2 no2
noncomputable def m7 (K : KN) : KN := fun l h => b_law_7 l h K noR no2 no2
noncomputable def m9 (K : KN) : KN := fun l h => b_law_9 l h (fun l h => b_law_10 l h (fun l h => b_law_11 l h K noR no2 no2) noR no2 no2) noR no2 no2
noncomputable def m10 (K : KN) : KN := fun l h => b_law_10 l h (fun l h => b_law_11 l h K noR no2 no2) noR no2 no2
noncomputable def m11 (K : KN) : KN := fun l h => b_law_11 l h K noR no2 no2
section
variable {G : Base} {f : Fx} {n : Nat} {K : KN} {st : Stmt} {r : List Stmt}
theorem fin_1 (a : SS G f n b_law_1 st) (b : FinS G f n (m2 K) r) : FinS G f n (m1 K) (st :: r) := fin_cons a b
theorem fin_2 (a : SS G f n b_law_2 st) (b : FinS G f n (m3 K) r) : FinS G f n (m2 K) (st :: r) := fin_cons a b
theorem fin_3 (a : SS G f n b_law_3 st) (b : FinS G f n (m4 K) r) : FinS G f n (m3 K) (st :: r) := fin_cons a b
theorem fin_4 (a : SS G f n b_law_4 st) (b : FinS G f n K r) : FinS G f n (m4 K) (st :: r) := fin_cons a b
theorem fin_5 (a : SS G f n b_law_5 st) (b : FinS G f n (m6 K) r) : FinS G f n (m5 K) (st :: r) := fin_cons a b
theorem fin_6 (a : SS G f n b_law_6 st) (b : FinS G f n (m7 K) r) : FinS G f n (m6 K) (st :: r) := fin_cons a b
theorem fin_7 (a : SS G f n b_law_7 st) (b : FinS G f n K r) : FinS G f n (m7 K) (st :: r) := fin_cons a b
theorem fin_8 (a : SS G f n b_law_8 st) (b : FinS G f n (m9 K) r) : FinS G f n (m8 K) (st :: r) := fin_cons a b
theorem fin_9 (a : SS G f n b_law_9 st) (b : FinS G f n (m10 K) r) : FinS G f n (m9 K) (st :: r) := fin_cons a b
theorem fin_10 (a : SS G f n b_law_10 st) (b : FinS G f n (m11 K) r) : FinS G f n (m10 K) (st :: r) := fin_cons a b
theorem fin_11 (a : SS G f n b_law_11 st) (b : FinS G f n K r) : FinS G f n (m11 K) (st :: r) := fin_cons a b
theorem fin_12 {base : Heap} (a : SSX base [] false G f n (sfor (tvar 18) rangeE (turnX bodyX)) st) (b : FinS G f n (fun _ _ => true) r) : FinS G f n m12 (st :: r) := fin_consX a b
end
noncomputable def Told (xs : List Int) : Prop := ∃ KA KB : KN, (∀ l h, KB l h = true → m8 KA l h = true) ∧ (∀ l h, KA l h = true → m12 l h = true) ∧ m1 (m5 KB) l₀ (η₀ (Cells xs)) = true
theorem ok_of {cn : Str} {cs : Scope} {a : Addr} {cd : Value} {names : List Str} (h1 : cs.kind = .function) (h2 : names.Nodup) (h3 : ∀ nm ∈ names, cs.names.lookup nm = some .local) (h4 : ∀ nm ∈ names, (nm == ("__debug__" : Str)) = false) : Fx.Ok ⟨cn, cs, a, cd, names⟩ := ⟨h1, h2, h3, h4⟩
theorem mg_none {K : Frag} {h : Heap} {mg : Str → Option Value} {n : Str} (X : K.In h) (G : h.Ns mainGlobals mg) (e : nsIn K mainGlobals n = some none) : mg n = none := by
  obtain ⟨o, es, ep, ho, hd, _, hf⟩ := G
  unfold nsIn at e
  split at e
  · rename_i c d es' n' sl q
    have := X _ _ q
    rw [ho] at this
    cases this
    cases hd
    split at e
    · cases e
    · rename_i he
      rw [← hf]
      unfold nsFind findBy
      rw [← Array.find?_toList, he]
      rfl
  · cases e
theorem nob_of {w : World} {h₀ : Heap} {mg mb : Str → Option Value} (X : (kP w.params).In h₀) (g : h₀.Ns mainGlobals mg) (hb : ∀ x : Str, x ≠ "__name__" → mb x = bootBuiltins x) :
    ∀ x : Str, x = "len" ∨ x = "abs" ∨ x = "min" ∨ x = "range" ∨ x = "Exception" → mg x = none ∧ mb x = bootBuiltins x := by
  intro x hx
  rcases hx with rfl | rfl | rfl | rfl | rfl
  · exact ⟨mg_none X g (by kernel_rfl), hb _ (by decide)⟩
  · exact ⟨mg_none X g (by kernel_rfl), hb _ (by decide)⟩
  · exact ⟨mg_none X g (by kernel_rfl), hb _ (by decide)⟩
  · exact ⟨mg_none X g (by kernel_rfl), hb _ (by decide)⟩
  · exact ⟨mg_none X g (by kernel_rfl), hb _ (by decide)⟩
theorem law_end {w : World} {h₀ : Heap} {mg mb : Str → Option Value} (X : (kP w.params).In h₀) (lim : h₀.NoLimit) (g : h₀.Ns mainGlobals mg) (b : h₀.Ns builtinsNs mb)
    (nob : ∀ x : Str, x = "len" ∨ x = "abs" ∨ x = "min" ∨ x = "range" ∨ x = "Exception" → mg x = none ∧ mb x = bootBuiltins x)
    {name : Str} {cs : Scope} {fa : Addr} {cd : Value} {L : Addr} {ns : List Int} {os : OsState} {s : Shared} {body : List Stmt} {Q : Flow → Shared → Prop} {E : Value → Shared → Prop} (hn : name = "law") (z : AtS h₀ L ns #[] os s) (T : Told (cells ns)) (ok : Fx.Ok ⟨"law", cs, fa, cd, lawNames⟩)
    (fin : ∀ (G : Base) (B : Own G) (hmE : G.mg "Exception" = none) (hbE : G.mb "Exception" = bootBuiltins "Exception") (ok : Fx.Ok ⟨"law", cs, fa, cd, lawNames⟩) (KA KB : KN), (∀ l h, KB l h = true → m8 KA l h = true) → (∀ l h, KA l h = true → m12 l h = true) → FinS G ⟨"law", cs, fa, cd, lawNames⟩ 8 (m1 (m5 KB)) body)
    (hQ : ∀ s', (∀ b o, h₀.get? b = some o → s'.heap.get? b = some o) → s'.gens = #[] → s'.os = os → Q (.ret (.bool true)) s') :
    wpAny (model PySem.Challenge.rw_nt0434_01.row.prog w) (callerA.deeper (envOf name cs L fa cd)) (execs body (envOf name cs L fa cd)) Q E s := by
  subst hn
  obtain ⟨φ, S⟩ := start_SR (w := w) (mg := mg) (mb := mb) (X := X) (lim := lim) (g := g) (b := b) (nob := fun x hx => nob x (by rcases hx with h | h | h | h <;> simp [h])) (cs := cs) (fa := fa) (cd := cd) z
  obtain ⟨KA, KB, hB, hA', hm⟩ := T
  obtain ⟨hmE, hbE⟩ := nob "Exception" (by simp)
  obtain ⟨D, ws, m, -, -, -, -, -, -, -, hg, hos⟩ := z
  have room : Room (callerA.deeper (envOf "law" cs L fa cd)) 8 := ⟨by show callerA.depth + 1 + 8 < recursionLimit; decide +kernel, by show callerA.units + 3 + 8 * 8 + 16 < cLine; decide +kernel, rfl⟩
  refine wpAny_mono (fin (base0 w h₀ mg mb X lim g b fun x hx => nob x (by rcases hx with h | h | h | h <;> simp [h])) ⟨rfl, rfl, rfl⟩ hmE hbE ok KA KB hB hA' _ L φ _ l₀ s room (Around.frames_deeper (below_caller h₀).stack) S hm) (fun fl s' y => ?_) fun _ _ y => y.elim
  obtain ⟨rfl, k, g', o'⟩ := y
  exact hQ s' k (g'.trans hg) (o'.trans hos)
end Kp
end
-- part KpAll
section
set_option autoImplicit false
set_option linter.unusedVariables false
set_option maxRecDepth 100000
set_option Elab.async false
namespace Kp
open PySem PySem.W PyProof.Rows PySem.Calls
theorem int_mod {fl c n : Nat} (hc : c < fl) (h : (n : Int) % (fl : Int) = (c : Int) ∨ (n : Int) % (fl : Int) = (fl : Int) - 1 - (c : Int)) : n % fl = c ∨ n % fl = fl - 1 - c := by
  have e : ((n % fl : Nat) : Int) = (n : Int) % (fl : Int) := Int.natCast_emod n fl
  rw [← e] at h
  (first | lia | omega)
open Classical in
theorem told_done {G : GM} {fr : List (List Nat)} {lc db : Bool} {r c g : Nat} (s' : Ok3 G fr) (ht : tuples[r]? = some (.tup [N G.fl, N G.rk])) (hr : r < 4) (hlc : decide ((G.rk : Int) = 5) = lc) (hcl : c < G.fl)
    (D : ∀ xs, ∃ bb nr rt h7 hE y12 y13 y14 y15 y16 y17, Done G lc db xs g c bb nr rt h7 hE y12 y13 y14 y15 y16 y17)
    {xs : List Int} {x0 x1 x2 : Int} (hlen : xs.length ≤ 100) (e0 : xs[0]? = some x0) (e1 : xs[1]? = some x1) (e2 : xs[2]? = some x2) (h0 : x0 % 4 = (r : Int)) (hd : (lc && decide (x1 % 2 = 0)) = db) (hc : x2 % (G.fl : Int) = (c : Int)) : Told xs := by
  have bd := s'.bd
  have hz : G.fl * G.rk = G.sz := by rcases s'.sh with ⟨x, y, z⟩ | ⟨x, y, z⟩ | ⟨x, y, z⟩ | ⟨x, y, z⟩ <;> rw [x, y, z]
  have sh : Shape G.fl G.rk G.sz := by
    unfold Shape
    rcases s'.sh with ⟨x, y, z⟩ | ⟨x, y, z⟩ | ⟨x, y, z⟩ | ⟨x, y, z⟩ <;> rw [x, y, z] <;> simp
  obtain ⟨bb, nr, rt, h7, hE, y12, y13, y14, y15, y16, y17, D⟩ := D (Cells xs)
  refine ⟨fun l h => decide (l = LL G .unb lc db g bb nr c rt [y12, y13, y14, y15, y16, y17, .unb, .unb, .unb, .unb, .unb, .unb, .unb, .unb] ∧ h = hE),
    fun l h => decide (l = [.unb, .ref 0, N G.fl, N G.rk, N G.sz, .bool lc, .bool db, .ref g, .ref bb, .ref nr, .unb, .unb, .unb, .unb, .unb, .unb, .unb, .unb, .unb, .unb, .unb, .unb, .unb, .unb, .unb, .unb] ∧ h = h7), fun l h hk => ?_, fun l h hk => ?_, ?_⟩
  · obtain ⟨rfl, rfl⟩ := of_decide_eq_true hk
    have ev := ev_bin (o := omod) (i := x2) (j := (G.fl : Int)) (ev_item (l := [.unb, .ref 0, N G.fl, N G.rk, N G.sz, .bool lc, .bool db, .ref g, .ref bb, .ref nr, .unb, .unb, .unb, .unb, .unb, .unb, .unb, .unb, .unb, .unb, .unb, .unb, .unb, .unb, .unb, .unb]) (h := h) (j := 2) (a := xloc 1) (ev_ref rfl) ev_lit D.s7 (by rw [List.getElem?_map, e2]; rfl) (fun z => by cases z) (by decide)) (ev_int (i := 2) rfl) (o_mod (by (first | lia | omega)) (by (first | lia | omega)))
    rw [hc] at ev
    have r8 : Ru b_law_8 [.unb, .ref 0, N G.fl, N G.rk, N G.sz, .bool lc, .bool db, .ref g, .ref bb, .ref nr, .unb, .unb, .unb, .unb, .unb, .unb, .unb, .unb, .unb, .unb, .unb, .unb, .unb, .unb, .unb, .unb] h
      (.nx [.unb, .ref 0, N G.fl, N G.rk, N G.sz, .bool lc, .bool db, .ref g, .ref bb, .ref nr, N c, .unb, .unb, .unb, .unb, .unb, .unb, .unb, .unb, .unb, .unb, .unb, .unb, .unb, .unb, .unb] h) := ru_set (v := N c) ev rfl
    exact (ru_seq r8 D.rE _ noR no2 no2).trans (decide_eq_true ⟨rfl, rfl⟩)
  · obtain ⟨rfl, rfl⟩ := of_decide_eq_true hk
    obtain ⟨b, kr, pr, p0, F⟩ := D.geo
    obtain ⟨fs, q, f0, f1, f2, -⟩ := F.fs
    refine end_loop (a0 := .unb) (a6 := .bool db) (vb := .ref bb) (a9 := .ref nr) (a11 := .ref rt) (g := g) (col := (c : Int)) (lc := lc) sh ⟨fs, q, f0, f1, f2⟩ (fun z => by cases z) D.sE hlen ⟨by (first | lia | omega), by (first | lia | omega)⟩ (fun t t' _ _ => same_LL (G := G) (x0 := .unb) (lc := lc) (db := db) (g := g) (bb := bb) (nr := nr) (col := c) (rt := rt) rfl t t') (fun t _ sd st pw wk q1 q2 q3 q4 q5 => ?_) _ _ _ _ _ _ _ _ _ _ _ _ _ _
    rw [inR_iff] at q2 q3 q4
    obtain ⟨n1, rfl⟩ : ∃ n : Nat, sd = n := ⟨sd.toNat, by (first | lia | omega)⟩
    obtain ⟨n2, rfl⟩ : ∃ n : Nat, st = n := ⟨st.toNat, by (first | lia | omega)⟩
    obtain ⟨n3, rfl⟩ : ∃ n : Nat, pw = n := ⟨pw.toNat, by (first | lia | omega)⟩
    obtain ⟨n4, rfl⟩ : ∃ n : Nat, wk = n := ⟨wk.toNat, by (first | lia | omega)⟩
    obtain ⟨T, t', h', hf, r⟩ := D.q ⟨n1, n2, n3, n4⟩ ⟨by show n1 ≤ 1; (first | lia | omega), by show n2 < _; (first | lia | omega), ⟨by show _ ≤ n3; (first | lia | omega), by show n3 < _; (first | lia | omega)⟩, by show n4 < _; (first | lia | omega)⟩ (int_mod hcl q5)
    exact (hf _).trans ((r _ noR no2 no2).trans (same_LL (G := G) (x0 := .unb) (lc := lc) (db := db) (g := g) (bb := bb) (nr := nr) (col := c) (rt := rt) rfl t t'))
  · exact first_bool (K := m5 _) e0 e1 h0 ht hr (by rw [← hz, Int.natCast_mul]) (by (first | lia | omega)) hlc hd ((D.r7 _ noR no2 no2).trans (decide_eq_true ⟨rfl, rfl⟩))
theorem told_small {G : GM} {fr : List (List Nat)} {g kr pr p0 : Nat} {H5 : List V → H} {r c : Nat} (s' : Ok3 G fr) (M : ∀ xs, Made G false false xs (H5 xs) g kr pr p0) (ht : tuples[r]? = some (.tup [N G.fl, N G.rk])) (hr : r < 4) (hlc : decide ((G.rk : Int) = 5) = false) (hcl : c < G.fl)
    (hk : smallK G fr (psN G) (List.range G.sz) (PLs G c) = true)
    {xs : List Int} {x0 x1 x2 : Int} (hlen : xs.length ≤ 100) (e0 : xs[0]? = some x0) (e1 : xs[1]? = some x1) (e2 : xs[2]? = some x2) (h0 : x0 % 4 = (r : Int)) (hc : x2 % (G.fl : Int) = (c : Int)) : Told xs :=
  told_done s' ht hr hlc hcl (fun xs => run_small (M xs) s' hcl hk) hlen e0 e1 e2 h0 rfl hc
theorem told_local {G : GM} {fr : List (List Nat)} {g kr pr p0 : Nat} {H5 : List V → H} {db : Bool} {r c : Nat} (s' : Ok3 G fr) (M : ∀ xs, Made G true db xs (H5 xs) g kr pr p0) (ht : tuples[r]? = some (.tup [N G.fl, N G.rk])) (hr : r < 4) (hlc : decide ((G.rk : Int) = 5) = true) (hcl : c < G.fl)
    {ls : List Pl} (hls : ∀ p, OnB G p → p ∈ ls) (hk : localK G fr (psN G) (List.range G.sz) db ls = true)
    {xs : List Int} {x0 x1 x2 : Int} (hlen : xs.length ≤ 100) (e0 : xs[0]? = some x0) (e1 : xs[1]? = some x1) (e2 : xs[2]? = some x2) (h0 : x0 % 4 = (r : Int)) (hd : decide (x1 % 2 = 0) = db) (hc : x2 % (G.fl : Int) = (c : Int)) : Told xs :=
  told_done s' ht hr hlc hcl (fun xs => run_local (M xs) s' (fun _ => by have := of_decide_eq_true hlc; (first | lia | omega)) hls hk) hlen e0 e1 e2 h0 hd hc
theorem told_all (xs : List Int) (h : 7 ≤ xs.length ∧ xs.length ≤ 100) : Told xs := by
  obtain ⟨x0, e0⟩ : ∃ x, xs[0]? = some x := ⟨xs[0], List.getElem?_eq_getElem (by (first | lia | omega))⟩
  obtain ⟨x1, e1⟩ : ∃ x, xs[1]? = some x := ⟨xs[1], List.getElem?_eq_getElem (by (first | lia | omega))⟩
  obtain ⟨x2, e2⟩ : ∃ x, xs[2]? = some x := ⟨xs[2], List.getElem?_eq_getElem (by (first | lia | omega))⟩
  have c0 : x0 % 4 = 0 ∨ x0 % 4 = 1 ∨ x0 % 4 = 2 ∨ x0 % 4 = 3 := by (first | lia | omega)
  have c2 : x2 % 2 = 0 ∨ x2 % 2 = 1 := by (first | lia | omega)
  have c3 : x2 % 3 = 0 ∨ x2 % 3 = 1 ∨ x2 % 3 = 2 := by (first | lia | omega)
  rcases c0 with c0 | c0 | c0 | c0
  · rcases c2 with c2 | c2
    · exact told_small (r := 0) (c := 0) ok23 m23 rfl (by decide) rfl (by decide) q23_s_0 h.2 e0 e1 e2 c0 c2
    · exact told_small (r := 0) (c := 1) ok23 m23 rfl (by decide) rfl (by decide) q23_s_1 h.2 e0 e1 e2 c0 c2
  · rcases c2 with c2 | c2
    · exact told_small (r := 1) (c := 0) ok24 m24 rfl (by decide) rfl (by decide) q24_s_0 h.2 e0 e1 e2 c0 c2
    · exact told_small (r := 1) (c := 1) ok24 m24 rfl (by decide) rfl (by decide) q24_s_1 h.2 e0 e1 e2 c0 c2
  · rcases c3 with c3 | c3 | c3
    · exact told_small (r := 2) (c := 0) ok33 m33 rfl (by decide) rfl (by decide) q33_s_0 h.2 e0 e1 e2 c0 c3
    · exact told_small (r := 2) (c := 1) ok33 m33 rfl (by decide) rfl (by decide) q33_s_1 h.2 e0 e1 e2 c0 c3
    · exact told_small (r := 2) (c := 2) ok33 m33 rfl (by decide) rfl (by decide) q33_s_2 h.2 e0 e1 e2 c0 c3
  · by_cases c1 : x1 % 2 = 0
    · rcases c2 with c2 | c2
      · exact told_local (r := 3) (c := 0) ok25d m25d rfl (by decide) rfl (by decide) on25_d q25_d h.2 e0 e1 e2 c0 (decide_eq_true c1) c2
      · exact told_local (r := 3) (c := 1) ok25d m25d rfl (by decide) rfl (by decide) on25_d q25_d h.2 e0 e1 e2 c0 (decide_eq_true c1) c2
    · rcases c2 with c2 | c2
      · exact told_local (r := 3) (c := 0) ok25s m25s rfl (by decide) rfl (by decide) on25_s q25_s h.2 e0 e1 e2 c0 (decide_eq_false c1) c2
      · exact told_local (r := 3) (c := 1) ok25s m25s rfl (by decide) rfl (by decide) on25_s q25_s h.2 e0 e1 e2 c0 (decide_eq_false c1) c2
end Kp
end
-- part KpHd
section
set_option autoImplicit false
set_option Elab.async false
set_option maxRecDepth 100000
namespace Kp
open PySem PySem.W PyProof.Rows
theorem e39 : ∀ P, a39 = (kP P).map (·.1) := fun _ => by kernel_rfl
theorem said39 : PySem.Challenge.rw_nt0434_01.wellSaid = true := by
  first
  | (rw [PySem.W.Fast.te9446332074065402090]; kernel_rfl)
  | kernel_rfl
theorem ok39 : (chainsOk q39 && opensWell PySem.Challenge.rw_nt0434_01.row.prog && (frees PySem.Challenge.rw_nt0434_01.row.toRowW && PySem.Challenge.rw_nt0434_01.row.within.isEmpty)) = true := by kernel_rfl
theorem names39 : namesOk q39 (looseW q39 []) (namesW q39 []) = true := by
  first
  | (rw [PySem.W.Fast.te17448422675489707002, PySem.W.Fast.te821141287760084731]; kernel_rfl)
  | kernel_rfl
theorem imp39 : importsNone q39 = true := by
  first
  | (rw [PySem.W.Fast.te2458874890965802552]; kernel_rfl)
  | kernel_rfl
-- the head's run with the library's quick twins in place of topRun and openSeen
noncomputable def tF (R : (String → Option Builtin) → Program → World → Nat → Option Value → Nat → Shared → Thread → Option Shared) (tb : String → Option Builtin) (p : Program) (w : World) (N : Nat) (s : Shared) : Option Shared :=
  match s.heap.isNs mainGlobals && s.gens.size == 0 with
  | true => (R tb p w s.heap.objs.size (s.heap.nsMap mainGlobals "__annotations__") N s (topStub p)).bind fun t => match staticsOk (importedModules p.main.body) s.heap t.heap && namesBound p t.heap && gensDone t && laidKept s.heap t.heap with
    | true => some t
    | false => none
  | false => none
theorem tF_eq : @topFrom = tF topRun := by
  funext tb p w N s
  unfold topFrom tF
  rfl
theorem open39 : opening PySem.Challenge.rw_nt0434_01.row.prog = plainProg PySem.Challenge.rw_nt0434_01.row.prog.main.scope.names := by kernel_rfl
theorem fence39 : ∀ s, fenceModules? PySem.Challenge.rw_nt0434_01.row.prog s = some s := fun s => by kernel_rfl
theorem left39 : LeftO PySem.Challenge.rw_nt0434_01.row.prog q39 [] (fun s => xlAt q39 [] s && recOk PySem.Challenge.rw_nt0434_01.row.records s) (kHook kP a39 e39).obs (kHook kP a39 e39).val 4046 := fun w => by
  first
  | (have run39 : ∀ (os : OsState), (tF PySem.W.Fast.tw14082659384304107361 treeTable PySem.Challenge.rw_nt0434_01.row.prog w 4046 ⟨boot_heap w.params, Array.mk [], boot_drawn, boot_toks, os⟩).map (fun s => (PySem.W.Fast.tw4187177175401517315 q39 [] (importedModules PySem.Challenge.rw_nt0434_01.row.prog.main.body) (fun s => xlAt q39 [] s && recOk PySem.Challenge.rw_nt0434_01.row.records s) true s, (kHook kP a39 e39).obs s)) = some (openGood q39 [], (kHook kP a39 e39).val w) := fun os => by kernel_rfl
     obtain ⟨⟨h, gs, d, k, os⟩, e, e'⟩ := Option.map_eq_some_iff.mp (boot_open (N := 4046) open39 rfl fence39 w)
     obtain ⟨rfl, rfl, rfl, rfl⟩ : h = boot_heap w.params ∧ gs = Array.mk [] ∧ d = boot_drawn ∧ k = boot_toks := by simpa using e'
     unfold openEnds
     rw [e, Option.bind_some, tF_eq, PySem.W.Fast.te14082659384304107361, PySem.W.Fast.te4187177175401517315]
     exact run39 os)
  | kernel_rfl
end Kp
end
-- part KpFinalS
section
set_option autoImplicit false
set_option linter.unusedVariables false
set_option Elab.async false
namespace Kp
open PySem PySem.W PyProof.Rows PySem.Calls
-- no twins of the own program: their proofs are 2.8 MB
local macro_rules | `(tactic| k_qdec) => `(tactic| first | exact names39 | exact imp39)
set_option maxRecDepth 100000 in
set_option maxHeartbeats 8000000 in
theorem main : PySem.Challenge.rw_nt0434_01.Holds := by
  refine holds_law said39 fun said => ?_
  refine PySem.W.holds_open (q := q39) (loose := []) (Xt := fun s => xlAt q39 [] s && recOk PySem.Challenge.rw_nt0434_01.row.records s) (XP := PySem.W.XL q39 []) (Yf := (kHook kP a39 e39).obs) (Ya := (kHook kP a39 e39).val) (YP := (kHook kP a39 e39).says) (N := 4046) left39 (kHook kP a39 e39).of (kHook kP a39 e39).keeps (fun s e => xl_of s (Bool.and_eq_true_iff.mp e).1) PySem.W.XL.keeps (by rfl) (by rfl) (by rfl) (fun s e => recFacts_of (Bool.and_eq_true_iff.mp e).2) (by rfl) said ok39 ⟨rfl, rfl, rfl, rfl, rfl, by decide +kernel⟩ ⟨[.list []], by decide +kernel, by decide +kernel⟩ ?_
  k_go0
  all_goals try k_fold
  rename_i w s₀ s₁ mg mb G Y fa o pm doc kV ho hg KX X V GL T B TE TW w9 w8 M w7 w6 hcd ns hs hlay0 hL1 hr1 hl2 w4 w3 w2 us w0 hL ra w1' r0 hI hr hcond1 hcond2 K0 hD h₁ F N0
  refine wpAny_execs_cons ?_
  refine wpAny_mono (Q := fun fl s' => fl = .next ∧ AtS s₁.heap s₁.heap.objs.size ns #[] s₁.os s') (E := fun _ _ => False) ?_ (fun fl s' z => ?_) (fun _ _ z => z.elim)
  · k_steps
    · trivial
    · rename_i D ws h1 hI2 l1 h2 F2 N2
      exact ⟨D, ws, _, ⟨_, 0, (N2 _ (.head _)).1, rfl, rfl, rfl⟩, hI2, (N2 _ (.head _)).2.2, Nat.lt_of_lt_of_le (by decide : sysModules < 3) (by omega : (3 : Nat) ≤ D), (N2 _ (.head _)).2.1, F2, rfl, hg, rfl⟩
  · obtain ⟨rfl, z⟩ := z
    dsimp only
    with_reducible refine law_end (w := w) (h₀ := s₁.heap) (mg := mg) (mb := mb) (ns := ns) (os := s₁.os) KX T.nolimit T.g T.b ?qnob ?qhn z ?qT ?qok ?qfin ?qhQ
    case qnob => exact nob_of KX T.g T.builtins
    case qhn => rfl
    case qT => exact told_all _ (cells_len _)
    case qok => exact ok_of rfl (by decide +kernel) (by decide +kernel) (by decide +kernel)
    case qhQ =>
      intro s' k g' o'
      exact ⟨.inl ⟨.bool true, .bool true, [], rfl, fun cls => rfl, .bool true, postW_of (X := true) (by first | rfl | kernel_rfl) (by first | rfl | kernel_rfl) rfl, fun h => ⟨List.nodup_nil, fun _ h => by cases h⟩⟩, k, o', g'⟩
    case qfin =>
      clear z Y X V GL T B TE TW M hcd hs hlay0 hL1 hr1 hl2 hL ra w1' r0 hI hr hcond1 hcond2 K0 hD F N0 KX
      intro G B hmE hbE ok KA KB hB hA
      with_reducible refine fin_1 ?p1 ?q1
      case p1 =>
        unfold b_law_1
        with_reducible refine ss_unpack ok ?h1 ?h2 ?h3 (hs := fun _ => by kernel_rfl) (hw := fun _ => by kernel_rfl)
        case h1 => exact he_cons rfl (he_cons rfl he_nil)
        case h2 => rfl
        refine es_sub ?x1 ?x2
        case x2 => exact es_bin (op_mod _) (es_sub (es_loc ok rfl) (es_int rfl)) (es_int rfl)
        case x1 =>
          refine es_list ?_
          refine ls_cons (es_tup (ls_cons (es_int rfl) (ls_cons (es_int rfl) ls_nil))) ?_
          exact (ls_cons (es_tup (ls_cons (es_int rfl) (ls_cons (es_int rfl) ls_nil))) (ls_cons (es_tup (ls_cons (es_int rfl) (ls_cons (es_int rfl) ls_nil))) (ls_cons (es_tup (ls_cons (es_int rfl) (ls_cons (es_int rfl) ls_nil))) ls_nil)))
      with_reducible refine fin_2 ?p2 ?q2
      case p2 =>
        exact (ss_set ok rfl (es_bin (op_mul _) (es_loc ok rfl) (es_loc ok rfl)))
      with_reducible refine fin_3 ?p3 ?q3
      case p3 =>
        exact (ss_set ok rfl (es_cmp (cm_eq _) (es_loc ok rfl) (es_int rfl)))
      with_reducible refine fin_4 ?p4 ?q4
      case p4 =>
        exact (ss_set ok rfl (es_boolv (bv_and (es_loc ok rfl) (bv_one (es_cmp (cm_eq _) (es_bin (op_mod _) (es_sub (es_loc ok rfl) (es_int rfl)) (es_int rfl)) (es_int rfl))))))
      with_reducible refine fin_5 ?p5 ?q5
      case p5 =>
        exact (ss_set ok rfl (es_call ok (by kernel_rfl) (by kernel_rfl) (at_make_geometry B) ((fs_make_geometry B).more (by decide)) (ls_cons (es_loc ok rfl) (ls_cons (es_loc ok rfl) (ls_cons (es_loc ok rfl) (ls_cons es_bool ls_nil))))))
      with_reducible refine fin_6 ?p6 ?q6
      case p6 =>
        exact (ss_set ok rfl (es_call ok (by kernel_rfl) (by kernel_rfl) (at_build_kpk B) ((fs_build_kpk B).more (by decide)) (ls_cons (es_loc ok rfl) ls_nil)))
      with_reducible refine fin_7 ?p7 ?q7
      case p7 =>
        exact (ss_set ok rfl (es_call ok (by kernel_rfl) (by kernel_rfl) (at__law_near B) ((fs__law_near B).more (by decide)) (ls_cons (es_loc ok rfl) (ls_cons (es_loc ok rfl) ls_nil))))
      with_reducible refine FinS.imp (m := m8 KA) ?_ hB
      with_reducible refine fin_8 ?p8 ?q8
      case p8 =>
        exact (ss_set ok rfl (es_bin (op_mod _) (es_sub (es_loc ok rfl) (es_int rfl)) (es_loc ok rfl)))
      with_reducible refine fin_9 ?p9 ?q9
      case p9 =>
        exact (ss_if (ts_cmp (cm_ne _) (es_len ok (by kernel_rfl) (es_loc ok rfl)) (es_bin (op_mul _) (es_bin (op_mul _) (es_bin (op_mul _) (es_bin (op_mul _) (es_bin (op_div _) (es_bin (op_add _) (es_loc ok rfl) (es_int rfl)) (es_int rfl)) (es_bin (op_sub _) (es_loc ok rfl) (es_int rfl))) (es_int rfl)) (es_loc ok rfl)) (es_loc ok rfl)))
         (bs_one (ss_ret es_bool))
         bs_nil)
      with_reducible refine fin_10 ?p10 ?q10
      case p10 =>
        exact (ss_set ok rfl es_dict)
      with_reducible refine fin_11 ?p11 ?q11
      case p11 =>
        exact (ss_if (ts_not (TS.of (es_loc ok rfl)))
         (bs_cons (ss_set ok rfl (es_call ok (by kernel_rfl) (by kernel_rfl) (at__law_solve B) ((fs__law_solve B).more (by decide)) (ls_cons (es_loc ok rfl) (ls_cons (es_loc ok rfl) (ls_cons (es_loc ok rfl) (ls_cons (es_loc ok rfl) ls_nil))))))
         (bs_one (ss_for (tgt_var ok rfl) (es_loc ok rfl)
          (bs_cons (ss_unpack ok (he_cons rfl (he_cons rfl (he_cons rfl (he_cons rfl he_nil)))) rfl (es_loc ok rfl))
          (bs_cons (ss_if (ts_bool (at_and (ts_cmp (cm_ne _) (es_loc ok rfl) (es_loc ok rfl)) (at_one (ts_notin (es_loc ok rfl) (es_sub (es_loc ok rfl) (es_loc ok rfl))))))
           (bs_cons (ss_set ok rfl (es_sub (es_list (ls_cons (es_int rfl) (ls_cons (es_int rfl) (ls_cons (es_int rfl) (ls_cons (es_int rfl) ls_nil))))) (es_sub (es_call ok (by kernel_rfl) (by kernel_rfl) (at__law_after B) ((fs__law_after B).more (by decide)) (ls_cons (es_loc ok rfl) (ls_cons (es_loc ok rfl) (ls_cons es_bool (ls_cons (es_loc ok rfl) (ls_cons (es_loc ok rfl) (ls_cons (es_loc ok rfl) (ls_cons (es_loc ok rfl) (ls_cons (es_loc ok rfl) ls_nil))))))))) (es_int rfl))))
           (bs_one (ss_if (ts_cmp (cm_ne _) (es_call ok (by kernel_rfl) (by kernel_rfl) (at_first_result B) ((fs_first_result B).more (by decide)) (ls_cons (es_loc ok rfl) (ls_cons (es_loc ok rfl) (ls_cons (es_loc ok rfl) (ls_cons (es_loc ok rfl) (ls_cons (es_loc ok rfl) ls_nil)))))) (es_loc ok rfl))
            (bs_one (ss_ret es_bool))
            bs_nil)))
           bs_nil)
          (bs_one (ss_if (ts_cmp (cm_ne _) (es_call ok (by kernel_rfl) (by kernel_rfl) (at_probe_kpk B) ((fs_probe_kpk B).more (by decide)) (ls_cons (es_loc ok rfl) (ls_cons (es_loc ok rfl) (ls_cons (es_sub (es_loc ok rfl) (es_int rfl)) (ls_cons (es_sub (es_loc ok rfl) (es_int rfl)) (ls_cons (es_sub (es_loc ok rfl) (es_int rfl)) (ls_cons (es_sub (es_loc ok rfl) (es_int rfl)) ls_nil))))))) (es_sub (es_loc ok rfl) (es_loc ok rfl)))
           (bs_one (ss_ret es_bool))
           bs_nil)))))))
         bs_nil)
      with_reducible refine FinS.imp (m := m12) ?_ hA
      with_reducible refine fin_12 (base := G.h₀) ?p12 ?q12
      case p12 =>
        refine ssx_for (tgt_var ok rfl) (es_range3 ok (by kernel_rfl) (es_int rfl) (es_bin (op_sub _) (es_len ok (by kernel_rfl) (es_loc ok rfl)) (es_int rfl)) (es_int rfl)) (bsx_turn (bodyX := bodyX) fun h0 L k => ?_)
        have B' : Own (refz G h0 L k) := ⟨B.K, B.C, B.fI⟩
        unfold bodyX
        exact (bsx_cons (SSX.of (ss_set ok rfl (es_bin (op_mod _) (es_sub (es_loc ok rfl) (es_loc ok rfl)) (es_bin (op_add _) (es_loc ok rfl) (es_int rfl)))))
        (bsx_cons (SSX.of (ss_set ok rfl (es_bin (op_add _) (es_bin (op_mul _) (es_bin (op_mod _) (es_bin (op_add _) (es_sub (es_loc ok rfl) (es_bin (op_add _) (es_loc ok rfl) (es_int rfl))) (es_int rfl)) (es_bin (op_add _) (es_loc ok rfl) (es_int rfl))) (es_loc ok rfl)) (es_loc ok rfl))))
        (bsx_cons (SSX.of (ss_if (ts_cmp (cm_eq _) (es_bin (op_mod _) (es_bin (op_div _) (es_sub (es_loc ok rfl) (es_bin (op_add _) (es_loc ok rfl) (es_int rfl))) (es_bin (op_add _) (es_loc ok rfl) (es_int rfl))) (es_int rfl)) (es_int rfl))
         (bs_one (ss_set ok rfl (es_call ok (by kernel_rfl) (by kernel_rfl) (at__law_mirror B') ((fs__law_mirror B').more (by decide)) (ls_cons (es_loc ok rfl) (ls_cons (es_loc ok rfl) ls_nil)))))
         bs_nil))
        (bsx_cons (SSX.of (ss_set ok rfl (es_bin (op_mod _) (es_bin (op_sub _) (es_bin (op_add _) (es_sub (es_loc ok rfl) (es_bin (op_add _) (es_loc ok rfl) (es_int rfl))) (es_loc ok rfl)) (es_int rfl)) (es_bin (op_add _) (es_loc ok rfl) (es_int rfl)))))
        (bsx_cons (SSX.of (ss_set ok rfl (es_bin (op_mod _) (es_sub (es_loc ok rfl) (es_bin (op_add _) (es_loc ok rfl) (es_int rfl))) (es_int rfl))))
        (bsx_cons (SSX.of (ss_set ok rfl (es_bin (op_mod _) (es_bin (op_div _) (es_sub (es_loc ok rfl) (es_bin (op_add _) (es_loc ok rfl) (es_int rfl))) (es_int rfl)) (es_int rfl))))
        (bsx_cons (SSX.of (ss_if (ts_cmp (cm_eq _) (es_loc ok rfl) (es_bin (op_add _) (es_loc ok rfl) (es_int rfl)))
         (bs_one (ss_set ok rfl (es_neg (es_int rfl))))
         bs_nil))
        (bsx_cons (SSX.of (ss_if (ts_cmp (cm_eq _) (es_loc ok rfl) (es_bin (op_add _) (es_loc ok rfl) (es_int rfl)))
         (bs_one (ss_set ok rfl (es_neg (es_int rfl))))
         bs_nil))
        (bsx_cons (SSX.of (ss_set ok rfl (es_not (es_boolv (bv_and (es_cmp2 (cm_le _) (cm_lt _) (es_int rfl) (es_loc ok rfl) (es_loc ok rfl)) (bv_and (es_cmp2 (cm_le _) (cm_lt _) (es_int rfl) (es_loc ok rfl) (es_loc ok rfl)) (bv_one (es_cmp2 (cm_le _) (cm_lt _) (es_loc ok rfl) (es_loc ok rfl) (es_bin (op_sub _) (es_loc ok rfl) (es_loc ok rfl))))))))))
        (bsx_cons (SSX.of (ss_set ok rfl (es_neg (es_int rfl))))
        (bsx_cons (ssx_try B' hmE hbE ok (by decide) (by kernel_rfl) (by kernel_rfl) rfl rfl (ss_set ok rfl (es_call ok (by kernel_rfl) (by kernel_rfl) (at_probe_for B') ((fs_probe_for B').more (by decide)) (ls_cons (es_loc ok rfl) (ls_cons (es_loc ok rfl) (ls_cons (es_loc ok rfl) (ls_cons (es_loc ok rfl) (ls_cons (es_loc ok rfl) (ls_cons (es_loc ok rfl) (ls_cons (es_loc ok rfl) ls_nil))))))))) (fun G' => (ls_cons (es_loc ok rfl) (ls_cons (es_loc ok rfl) (ls_cons (es_loc ok rfl) (ls_cons (es_loc ok rfl) (ls_cons (es_loc ok rfl) (ls_cons (es_loc ok rfl) (ls_cons (es_loc ok rfl) ls_nil)))))))))
        (bsx_cons (SSX.of (ss_if (TS.of (es_loc ok rfl))
         (bs_cons (ss_if (ts_cmp (cm_ne _) (es_loc ok rfl) (es_neg (es_int rfl)))
          (bs_one (ss_ret es_bool))
          bs_nil)
         (bs_one ss_cont))
         bs_nil))
        (bsx_cons (SSX.of (ss_if (ts_cmp (cm_eq _) (es_loc ok rfl) (es_int rfl))
         (bs_cons (ss_set ok rfl (es_call ok (by kernel_rfl) (by kernel_rfl) (at__law_turn B') ((fs__law_turn B').more (by decide)) (ls_cons (es_loc ok rfl) (ls_cons (es_loc ok rfl) (ls_cons (es_loc ok rfl) ls_nil)))))
         (bs_cons (ss_set ok rfl (es_call ok (by kernel_rfl) (by kernel_rfl) (at__law_turn B') ((fs__law_turn B').more (by decide)) (ls_cons (es_loc ok rfl) (ls_cons (es_loc ok rfl) (ls_cons (es_loc ok rfl) ls_nil)))))
         (bs_cons (ss_set ok rfl (es_call ok (by kernel_rfl) (by kernel_rfl) (at__law_turn B') ((fs__law_turn B').more (by decide)) (ls_cons (es_loc ok rfl) (ls_cons (es_loc ok rfl) (ls_cons (es_loc ok rfl) ls_nil)))))
         (bs_one (ss_set ok rfl (es_bin (op_sub _) (es_int rfl) (es_loc ok rfl)))))))
         bs_nil))
        (bsx_one (SSX.weak (SSX.of (ss_if (ts_not (TS.of (es_loc ok rfl)))
         (bs_cons (ss_if (ts_cmp (cm_ne _) (es_bin (op_mod _) (es_loc ok rfl) (es_loc ok rfl)) (es_loc ok rfl))
          (bs_cons (ss_set ok rfl (es_call ok (by kernel_rfl) (by kernel_rfl) (at__law_mirror B') ((fs__law_mirror B').more (by decide)) (ls_cons (es_loc ok rfl) (ls_cons (es_loc ok rfl) ls_nil))))
          (bs_cons (ss_set ok rfl (es_call ok (by kernel_rfl) (by kernel_rfl) (at__law_mirror B') ((fs__law_mirror B').more (by decide)) (ls_cons (es_loc ok rfl) (ls_cons (es_loc ok rfl) ls_nil))))
          (bs_one (ss_set ok rfl (es_call ok (by kernel_rfl) (by kernel_rfl) (at__law_mirror B') ((fs__law_mirror B').more (by decide)) (ls_cons (es_loc ok rfl) (ls_cons (es_loc ok rfl) ls_nil)))))))
          bs_nil)
         (bs_one (ss_if (ts_cmp (cm_ne _) (es_loc ok rfl) (es_sub (es_loc ok rfl) (es_tup (ls_cons (es_loc ok rfl) (ls_cons (es_loc ok rfl) (ls_cons (es_loc ok rfl) (ls_cons (es_loc ok rfl) ls_nil)))))))
          (bs_one (ss_ret es_bool))
          bs_nil)))
         (bs_cons (ss_unpack ok (he_cons rfl (he_cons rfl he_nil)) rfl (es_call ok (by kernel_rfl) (by kernel_rfl) (at__law_after B') ((fs__law_after B').more (by decide)) (ls_cons (es_loc ok rfl) (ls_cons (es_loc ok rfl) (ls_cons (es_loc ok rfl) (ls_cons (es_loc ok rfl) (ls_cons (es_loc ok rfl) (ls_cons (es_loc ok rfl) (ls_cons (es_loc ok rfl) (ls_cons (es_loc ok rfl) ls_nil))))))))))
         (bs_cons (ss_set ok rfl (es_int rfl))
         (bs_cons (ss_for (tgt_var ok rfl) (es_loc ok rfl)
          (bs_one (ss_if (ts_cmp (cm_eq _) (es_call ok (by kernel_rfl) (by kernel_rfl) (at_probe_kpk B') ((fs_probe_kpk B').more (by decide)) (ls_cons (es_loc ok rfl) (ls_cons (es_loc ok rfl) (ls_cons (es_sub (es_loc ok rfl) (es_int rfl)) (ls_cons (es_sub (es_loc ok rfl) (es_int rfl)) (ls_cons (es_sub (es_loc ok rfl) (es_int rfl)) (ls_cons (es_sub (es_loc ok rfl) (es_int rfl)) ls_nil))))))) (es_int rfl))
           (bs_one (ss_aug ok rfl (iop_add _) (es_int rfl)))
           bs_nil)))
         (bs_cons (ss_set ok rfl (es_int rfl))
         (bs_cons (ss_if (ts_cmp (cm_eq _) (es_loc ok rfl) (es_int rfl))
          (bs_one (ss_set ok rfl (es_int rfl)))
          bs_nil)
         (bs_cons (ss_if (ts_bool (at_or (ts_cmp (cm_eq _) (es_loc ok rfl) (es_int rfl)) (at_one (ts_bool (at_and (ts_cmp (cm_eq _) (es_loc ok rfl) (es_int rfl)) (at_one (TS.of (es_call ok (by kernel_rfl) (by kernel_rfl) (at__law_is_won B') ((fs__law_is_won B').more (by decide)) (ls_cons (es_loc ok rfl) (ls_cons (es_loc ok rfl) (ls_cons (es_len ok (by kernel_rfl) (es_loc ok rfl)) ls_nil)))))))))))
          (bs_one (ss_set ok rfl (es_int rfl)))
          bs_nil)
         (bs_one (ss_if (ts_cmp (cm_ne _) (es_loc ok rfl) (es_loc ok rfl))
          (bs_one (ss_ret es_bool))
          bs_nil)))))))))))))))))))))))))
      exact fin_ret

end Kp
end
set_option maxHeartbeats 4000000 in
theorem PySem.Challenge.cw_nt0434_01_holds : PySem.Challenge.rw_nt0434_01.Holds := by
  exact Kp.main
