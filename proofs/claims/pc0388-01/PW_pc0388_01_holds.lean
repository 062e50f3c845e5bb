import PyProof.Rows.All
import Wide.All
import OpenK.AllK
import Wide.FinOn
import KE.KxBytes
import Lean
import PySem.Challenge.RW_pc0388_01
set_option Elab.async false
set_option maxRecDepth 100000
set_option linter.all false
set_option genSizeOf false
set_option tactic.hygienic false
set_option genInjectivity false
section
namespace Mine
inductive V where
 | none | bool (b : Bool) | int (i : Int) | str (k : Nat) | bytes (l : List Nat)
 | tup (l : List V) | lst (l : List V) | dct (l : List (V × V)) | ref (i : Nat)
 deriving Inhabited
noncomputable abbrev V.on {β : Type} (n : β) (b : Bool → β) (i : Int → β) (k : Nat → β) (y : List Nat → β) (t l : List V → β) (d : List (V × V) → β) (r : Nat → β) (v : V) : β := @V.rec (fun zz => β) (fun zz => Unit) (fun zz => Unit) (fun zz => Unit) n b i k y (fun x zz => t x) (fun x zz => l x) (fun x zz => d x) r () (fun zz zz zz zz => ()) () (fun zz zz zz zz => ()) (fun zz zz zz zz => ()) v
inductive Env where | nil | un (t : Env) | cons (v : V) (t : Env)
inductive O where
 | inst (c : Nat) (f : Env) | list (l : List V) | dict (l : List (V × V))
inductive T where
 | nil | node (o : O) (l r : T)
structure St where
 t : T
 n : Nat
inductive R (α : Type) where
 | ok (a : α) (s : St)
 | bad (k : Nat)
inductive RS where
 | next (ρ : Env) (s : St)
 | ret (v : V) (s : St)
 | cont (ρ : Env) (s : St)
 | bad (k : Nat)
inductive B3 where | no | yes | er
inductive C4 where | lt | eq | gt | er
inductive OL (α : Type) where | no | at (l : α)
abbrev DE := Env → St → R V
abbrev DT := Env → St → R Bool
abbrev DS := Env → St → RS
abbrev DF := List V → St → R V
noncomputable section
def getT (t : T) : Nat → OL O := T.rec (motive := fun zz => Nat → OL O) (fun zz => .no) (fun o zz zz l r i => Bool.rec (Bool.rec (r (Nat.sub (Nat.div i (nat_lit 2)) (nat_lit 1))) (l (Nat.div i (nat_lit 2))) (Nat.beq (Nat.mod i (nat_lit 2)) (nat_lit 1))) (.at o) (Nat.beq i (nat_lit 0))) t
def setT (t : T) : Nat → O → T := T.rec (motive := fun zz => Nat → O → T) (fun zz x => .node x .nil .nil) (fun o l r sl sr i x => Bool.rec (Bool.rec (.node o l (sr (Nat.sub (Nat.div i (nat_lit 2)) (nat_lit 1)) x)) (.node o (sl (Nat.div i (nat_lit 2)) x) r) (Nat.beq (Nat.mod i (nat_lit 2)) (nat_lit 1))) (.node x l r) (Nat.beq i (nat_lit 0))) t
def ltI (a b : Int) : Bool := Int.rec (fun m => Int.rec (fun n => Nat.ble (Nat.succ m) n) (fun zz => false) b) (fun m => Int.rec (fun zz => true) (fun n => Nat.ble (Nat.succ n) m) b) a
def eqI (a b : Int) : Bool := Int.rec (fun m => Int.rec (fun n => Nat.beq m n) (fun zz => false) b) (fun m => Int.rec (fun zz => false) (fun n => Nat.beq m n) b) a
def b3 (b : Bool) : B3 := Bool.rec .no .yes b
def eqB (a b : Bool) : Bool := Bool.rec (Bool.rec true false b) b a
def eqNs (a : List Nat) : List Nat → B3 := List.rec (motive := fun zz => List Nat → B3) (fun b => List.rec .yes (fun zz zz zz => .no) b) (fun x zz ih b => List.rec .no (fun y b zz => Bool.rec .no (ih b) (Nat.beq x y)) b) a
def eqL (f : V → V → B3) (a : List V) : List V → B3 := List.rec (motive := fun zz => List V → B3) (fun b => List.rec .yes (fun zz zz zz => .no) b) (fun x zz ih b => List.rec .no (fun y b zz => B3.rec .no (ih b) .er (f x y)) b) a
def allP (f : V → V → B3) (a : List V) : List V → B3 := List.rec (motive := fun zz => List V → B3) (fun zz => .yes) (fun x zz ih b => List.rec .er (fun y b zz => B3.rec (B3.rec .no .no .er (ih b)) (ih b) .er (f x y)) b) a
def len {α : Type} (a : List α) : Nat := List.rec (nat_lit 0) (fun zz zz ih => Nat.succ ih) a
def eqT (f : V → V → B3) (a b : List V) : B3 := Bool.rec .no (allP f a b) (Nat.beq (len a) (len b))
def eqV (n : Nat) : V → V → B3 := Nat.rec (motive := fun zz => V → V → B3) (fun zz zz => .er) (fun zz ih a b => V.on (V.on .yes (fun zz => .er) (fun zz => .no) (fun zz => .no) (fun zz => .er) (fun zz => .no) (fun zz => .er) (fun zz => .er) (fun zz => .er) b) (fun x => V.on .er (fun y => b3 (eqB x y)) (fun zz => .er) (fun zz => .er) (fun zz => .er) (fun zz => .er) (fun zz => .er) (fun zz => .er) (fun zz => .er) b) (fun x => V.on .no (fun zz => .er) (fun y => b3 (eqI x y)) (fun zz => .no) (fun zz => .er) (fun zz => .er) (fun zz => .er) (fun zz => .er) (fun zz => .er) b) (fun x => V.on .no (fun zz => .er) (fun zz => .no) (fun y => b3 (Nat.beq x y)) (fun zz => .er) (fun zz => .er) (fun zz => .er) (fun zz => .er) (fun zz => .er) b) (fun x => V.on .er (fun zz => .er) (fun zz => .er) (fun zz => .er) (fun y => eqNs x y) (fun zz => .er) (fun zz => .er) (fun zz => .er) (fun zz => .er) b) (fun x => V.on .no (fun zz => .er) (fun zz => .er) (fun zz => .er) (fun zz => .er) (fun y => eqL ih x y) (fun zz => .er) (fun zz => .er) (fun zz => .er) b) (fun x => V.on .er (fun zz => .er) (fun zz => .er) (fun zz => .er) (fun zz => .er) (fun zz => .er) (fun y => eqT ih x y) (fun zz => .er) (fun zz => .er) b) (fun zz => .er) (fun zz => .er) a) n
def cmpL (f : V → V → C4) (a : List V) : List V → C4 := List.rec (motive := fun zz => List V → C4) (fun b => List.rec .eq (fun zz zz zz => .lt) b) (fun x zz ih b => List.rec .gt (fun y b zz => C4.rec .lt (ih b) .gt .er (f x y)) b) a
def cmpI (x y : Int) : C4 := Bool.rec (Bool.rec .gt .lt (ltI x y)) .eq (eqI x y)
def cmpV (n : Nat) : V → V → C4 := Nat.rec (motive := fun zz => V → V → C4) (fun zz zz => .er) (fun zz ih a b => V.on .er (fun zz => .er) (fun x => V.on .er (fun zz => .er) (fun y => cmpI x y) (fun zz => .er) (fun zz => .er) (fun zz => .er) (fun zz => .er) (fun zz => .er) (fun zz => .er) b) (fun zz => .er) (fun zz => .er) (fun x => V.on .er (fun zz => .er) (fun zz => .er) (fun zz => .er) (fun zz => .er) (fun y => cmpL ih x y) (fun zz => .er) (fun zz => .er) (fun zz => .er) b) (fun zz => .er) (fun zz => .er) (fun zz => .er) a) n
def nthE (k : Nat) : Env → St → R V := Nat.rec (motive := fun zz => Env → St → R V) (fun l s => Env.rec (.bad 1) (fun zz zz => .bad 1) (fun v zz zz => .ok v s) l) (fun zz ih l s => Env.rec (.bad 1) (fun t zz => ih t s) (fun zz t zz => ih t s) l) k
def setE (k : Nat) : V → Env → Env := Nat.rec (motive := fun zz => V → Env → Env) (fun x l => Env.rec .nil (fun t zz => .cons x t) (fun zz t zz => .cons x t) l) (fun zz ih x l => Env.rec .nil (fun t zz => .un (ih x t)) (fun v t zz => .cons v (ih x t)) l) k
def uns (m : Nat) : Env := Nat.rec .nil (fun zz ih => .un ih) m
def env (l : List V) (m : Nat) : Env := List.rec (uns m) (fun v zz ih => .cons v ih) l
def app {α : Type} (a b : List α) : List α := List.rec b (fun x zz ih => .cons x ih) a
def keyEq (a b : V) : Bool := V.on false (fun zz => false) (fun x => V.on false (fun zz => false) (fun y => eqI x y) (fun zz => false) (fun zz => false) (fun zz => false) (fun zz => false) (fun zz => false) (fun zz => false) b) (fun x => V.on false (fun zz => false) (fun zz => false) (fun y => Nat.beq x y) (fun zz => false) (fun zz => false) (fun zz => false) (fun zz => false) (fun zz => false) b) (fun zz => false) (fun zz => false) (fun zz => false) (fun zz => false) (fun zz => false) a
def dget (k : V) (l : List (V × V)) : OL V := List.rec .no (fun p zz ih => Prod.rec (fun a v => Bool.rec ih (.at v) (keyEq a k)) p) l
def likeK (a b : V) : Bool := V.on false (fun zz => false) (fun zz => V.on false (fun zz => false) (fun zz => true) (fun zz => false) (fun zz => false) (fun zz => false) (fun zz => false) (fun zz => false) (fun zz => false) b) (fun zz => V.on false (fun zz => false) (fun zz => false) (fun zz => true) (fun zz => false) (fun zz => false) (fun zz => false) (fun zz => false) (fun zz => false) b) (fun zz => false) (fun zz => false) (fun zz => false) (fun zz => false) (fun zz => false) a
def sameK (k : V) (l : List (V × V)) : Bool := List.rec (likeK k k) (fun p zz ih => Prod.rec (fun a zz => Bool.rec false ih (likeK a k)) p) l
def dfind (k : V) (l : List (V × V)) : OL (OL V) := Bool.rec .no (.at (dget k l)) (sameK k l)
def dput (k x : V) (l : List (V × V)) : List (V × V) := List.rec (.cons (k, x) .nil) (fun p t ih => Prod.rec (fun a v => Bool.rec (.cons (a, v) ih) (.cons (a, x) t) (keyEq a k)) p) l
def uniq (l : List (V × V)) : Bool := List.rec true (fun p t ih => Prod.rec (fun a zz => OL.rec false (fun o => OL.rec ih (fun zz => false) o) (dfind a t)) p) l
def dputC (k x : V) (l : List (V × V)) : OL (List (V × V)) := Bool.rec .no (Bool.rec .no (Bool.rec .no (.at (dput k x l)) (Nat.ble (len l) (nat_lit 4096))) (uniq l)) (sameK k l)
def mem (x : Nat) (l : List Nat) : Bool := List.rec false (fun y zz ih => Bool.rec ih true (Nat.beq x y)) l
def onO {β : Type} (v : V) (s : St) (e : β) (fi : Nat → Env → β) (fl : List V → β) (fd : List (V × V) → β) : β := V.on e (fun zz => e) (fun zz => e) (fun zz => e) (fun zz => e) (fun zz => e) (fun zz => e) (fun zz => e) (fun i => St.rec (fun t zz => OL.rec e (fun o => O.rec fi fl fd o) (getT t i)) s) v
def new (o : O) (s : St) : R V := St.rec (fun t n => OL.rec (.bad 3) (fun zz => .ok (.ref n) ⟨setT t n o, Nat.succ n⟩) (getT (setT t n o) n)) s
def put (v : V) (o : O) (s : St) : St := V.on s (fun zz => s) (fun zz => s) (fun zz => s) (fun zz => s) (fun zz => s) (fun zz => s) (fun zz => s) (fun i => St.rec (fun t n => ⟨setT t i o, n⟩) s) v
def cst (v : V) : DE := fun zz s => .ok v s
def loc (k : Nat) : DE := fun ρ s => nthE k ρ s
def att (cs : List Nat) (k : Nat) (e : DE) : DE := fun ρ s => R.rec (fun v s => onO v s (.bad 2) (fun c f => Bool.rec (.bad 2) (nthE k f s) (mem c cs)) (fun zz => .bad 2) (fun zz => .bad 2)) .bad (e ρ s)
def evs (es : List DE) : Env → St → R (List V) := List.rec (motive := fun zz => Env → St → R (List V)) (fun zz s => .ok .nil s) (fun e zz ih ρ s => R.rec (fun v s => R.rec (fun vs s => .ok (.cons v vs) s) .bad (ih ρ s)) .bad (e ρ s)) es
def cal (F : DF) (es : List DE) : DE := fun ρ s => R.rec (fun v s => F v s) .bad (evs es ρ s)
def find (tab : List (Nat × DF)) (c : Nat) : DF := List.rec (motive := fun zz => DF) (fun zz zz => .bad 3) (fun p zz ih => Prod.rec (fun a F => Bool.rec ih F (Nat.beq a c)) p) tab
def mcal (tab : List (Nat × DF)) (e : DE) (es : List DE) : DE := fun ρ s => R.rec (fun v s => onO v s (.bad 5) (fun c zz => R.rec (fun vs s => find tab c (.cons v vs) s) .bad (evs es ρ s)) (fun zz => .bad 5) (fun zz => .bad 5)) .bad (e ρ s)
def mk (c m : Nat) (F : DF) (es : List DE) : DE := fun ρ s => R.rec (fun vs s => R.rec (fun v s => R.rec (fun w s => V.on (.ok v s) (fun zz => .bad 6) (fun zz => .bad 6) (fun zz => .bad 6) (fun zz => .bad 6) (fun zz => .bad 6) (fun zz => .bad 6) (fun zz => .bad 6) (fun zz => .bad 6) w) .bad (F (.cons v vs) s)) .bad (new (.inst c (uns m)) s)) .bad (evs es ρ s)
def fmodI (a b : Int) : Int := Int.rec (fun m => Int.rec (fun n => .ofNat (Nat.mod m n)) (fun zz => Int.fmod a b) b) (fun zz => Int.fmod a b) a
def fdivI (a b : Int) : Int := Int.rec (fun m => Int.rec (fun n => .ofNat (Nat.div m n)) (fun zz => Int.fdiv a b) b) (fun zz => Int.fdiv a b) a
def addI (a b : Int) : Int := Int.rec (fun m => Int.rec (fun n => .ofNat (Nat.add m n)) (fun zz => Int.add a b) b) (fun zz => Int.add a b) a
def mulI (a b : Int) : Int := Int.rec (fun m => Int.rec (fun n => .ofNat (Nat.mul m n)) (fun zz => Int.mul a b) b) (fun zz => Int.mul a b) a
def subI (a b : Int) : Int := Int.rec (fun m => Int.rec (fun n => Bool.rec (Int.sub a b) (.ofNat (Nat.sub m n)) (Nat.ble n m)) (fun zz => Int.sub a b) b) (fun zz => Int.sub a b) a
def onI {β : Type} (v : V) (e : β) (f : Int → β) : β := V.on e (fun zz => e) (fun i => f i) (fun zz => e) (fun zz => e) (fun zz => e) (fun zz => e) (fun zz => e) (fun zz => e) v
def cap : Nat := nat_lit 4096
def small (i : Int) : Bool := Int.rec (fun n => Nat.ble n (nat_lit 1000000000000000000)) (fun n => Nat.ble n (nat_lit 1000000000000000000)) i
def addV (x y : V) (s : St) : R V := V.on (.bad 7) (fun zz => .bad 7) (fun i => onI y (.bad 7) fun j => .ok (.int (addI i j)) s) (fun zz => .bad 7) (fun l => V.on (.bad 7) (fun zz => .bad 7) (fun zz => .bad 7) (fun zz => .bad 7) (fun m => Bool.rec (.bad 7) (.ok (.bytes (app l m)) s) (Nat.ble (Nat.add (len l) (len m)) cap)) (fun zz => .bad 7) (fun zz => .bad 7) (fun zz => .bad 7) (fun zz => .bad 7) y) (fun l => V.on (.bad 7) (fun zz => .bad 7) (fun zz => .bad 7) (fun zz => .bad 7) (fun zz => .bad 7) (fun m => Bool.rec (.bad 7) (.ok (.tup (app l m)) s) (Nat.ble (Nat.add (len l) (len m)) cap)) (fun zz => .bad 7) (fun zz => .bad 7) (fun zz => .bad 7) y) (fun l => V.on (.bad 7) (fun zz => .bad 7) (fun zz => .bad 7) (fun zz => .bad 7) (fun zz => .bad 7) (fun zz => .bad 7) (fun m => Bool.rec (.bad 7) (.ok (.lst (app l m)) s) (Nat.ble (Nat.add (len l) (len m)) cap)) (fun zz => .bad 7) (fun zz => .bad 7) y) (fun zz => .bad 7) (fun zz => .bad 7) x
def add (a b : DE) : DE := fun ρ s => R.rec (fun x s => R.rec (fun y s => addV x y s) .bad (b ρ s)) .bad (a ρ s)
def sub (a b : DE) : DE := fun ρ s => R.rec (fun x s => R.rec (fun y s => onI x (.bad 7) fun i => onI y (.bad 7) fun j => .ok (.int (subI i j)) s) .bad (b ρ s)) .bad (a ρ s)
def mul (a b : DE) : DE := fun ρ s => R.rec (fun x s => R.rec (fun y s => onI x (.bad 7) fun i => onI y (.bad 7) fun j => Bool.rec (.bad 7) (.ok (.int (mulI i j)) s) (small j)) .bad (b ρ s)) .bad (a ρ s)
def mod (a b : DE) : DE := fun ρ s => R.rec (fun x s => R.rec (fun y s => onI x (.bad 7) fun i => onI y (.bad 7) fun j => Int.rec (fun n => Bool.rec (.ok (.int (fmodI i j)) s) (.bad 7) (Nat.beq n (nat_lit 0))) (fun zz => .bad 7) j) .bad (b ρ s)) .bad (a ρ s)
def fdiv (a b : DE) : DE := fun ρ s => R.rec (fun x s => R.rec (fun y s => onI x (.bad 7) fun i => onI y (.bad 7) fun j => Int.rec (fun n => Bool.rec (.bad 7) (Bool.rec (.ok (.int (fdivI i j)) s) (.bad 7) (Nat.beq n (nat_lit 0))) (Nat.ble n (nat_lit 1000000000))) (fun zz => .bad 7) j) .bad (b ρ s)) .bad (a ρ s)
def natI (f : Nat → Nat → Nat) (top : Nat) (a b : V) (s : St) : R V := onI a (.bad 7) fun i => onI b (.bad 7) fun j => Int.rec (fun m => Int.rec (fun n => Bool.rec (.bad 7) (.ok (.int (.ofNat (f m n))) s) (Nat.ble n top)) (fun zz => .bad 7) j) (fun zz => .bad 7) i
def shl (a b : DE) : DE := fun ρ s => R.rec (fun x s => R.rec (fun y s => onI x (.bad 7) fun i => Bool.rec (.bad 7) (natI Nat.shiftLeft (nat_lit 64) x y s) (small i)) .bad (b ρ s)) .bad (a ρ s)
def shr (a b : DE) : DE := fun ρ s => R.rec (fun x s => R.rec (fun y s => natI Nat.shiftRight (nat_lit 64) x y s) .bad (b ρ s)) .bad (a ρ s)
def bigN : Nat := nat_lit 340282366920938463463374607431768211456
def band (a b : DE) : DE := fun ρ s => R.rec (fun x s => R.rec (fun y s => natI Nat.land bigN x y s) .bad (b ρ s)) .bad (a ρ s)
def bor (a b : DE) : DE := fun ρ s => R.rec (fun x s => R.rec (fun y s => natI Nat.lor bigN x y s) .bad (b ρ s)) .bad (a ρ s)
def rep (a : DE) (n : Nat) : DE := fun ρ s => R.rec (fun v s => V.on (.bad 7) (fun zz => .bad 7) (fun zz => .bad 7) (fun zz => .bad 7) (fun zz => .bad 7) (fun zz => .bad 7) (fun l => Bool.rec (.bad 7) (.ok (.lst (Nat.rec .nil (fun zz ih => app l ih) n)) s) (Nat.ble (len l) (nat_lit 64))) (fun zz => .bad 7) (fun zz => .bad 7) v) .bad (a ρ s)
def truthy (v : V) (s : St) : R Bool := V.on (.ok false s) (fun b => .ok b s) (fun i => .ok (Bool.rec true false (eqI i (.ofNat (nat_lit 0)))) s) (fun zz => .bad 8) (fun zz => .bad 8) (fun zz => .bad 8) (fun zz => .bad 8) (fun zz => .bad 8) (fun zz => .bad 8) v
def rB (b : B3) (s : St) : R Bool := B3.rec (.ok false s) (.ok true s) (.bad 9) b
def rN (b : B3) (s : St) : R Bool := B3.rec (.ok true s) (.ok false s) (.bad 9) b
def rC (x y z : Bool) (c : C4) (s : St) : R Bool := C4.rec (.ok x s) (.ok y s) (.ok z s) (.bad 9) c
def deref (s : St) (v : V) : V := V.on v (fun zz => v) (fun zz => v) (fun zz => v) (fun zz => v) (fun zz => v) (fun zz => v) (fun zz => v) (fun i => onO (.ref i) s (.ref i) (fun zz zz => .ref i) (fun l => .lst l) (fun zz => .ref i)) v
def six : Nat := nat_lit 6
inductive Cmp where | eq | ne | lt | le | gt | ge
def cmpS (op : Cmp) (a b : V) (s : St) : R Bool := Cmp.rec (rB (eqV six (deref s a) (deref s b)) s) (rN (eqV six (deref s a) (deref s b)) s) (rC true false false (cmpV six a b) s) (rC true true false (cmpV six a b) s) (rC false false true (cmpV six a b) s) (rC false true true (cmpV six a b) s) op
def tcmp (op : Cmp) (a b : DE) : DT := fun ρ s => R.rec (fun x s => R.rec (fun y s => cmpS op x y s) .bad (b ρ s)) .bad (a ρ s)
def tcmp3 (o1 o2 : Cmp) (a b c : DE) : DT := fun ρ s => R.rec (fun x s => R.rec (fun y s => R.rec (fun t s => Bool.rec (.ok false s) (R.rec (fun z s => cmpS o2 y z s) .bad (c ρ s)) t) .bad (cmpS o1 x y s)) .bad (b ρ s)) .bad (a ρ s)
def tisN (a : DE) : DT := fun ρ s => R.rec (fun v s => V.on (.ok true s) (fun zz => .ok false s) (fun zz => .ok false s) (fun zz => .ok false s) (fun zz => .ok false s) (fun zz => .ok false s) (fun zz => .ok false s) (fun zz => .ok false s) (fun zz => .ok false s) v) .bad (a ρ s)
def tE (a : DE) : DT := fun ρ s => R.rec (fun v s => truthy v s) .bad (a ρ s)
def tnot (a : DT) : DT := fun ρ s => R.rec (fun v s => .ok (Bool.rec true false v) s) .bad (a ρ s)
def tand (a b : DT) : DT := fun ρ s => R.rec (fun v s => Bool.rec (.ok false s) (b ρ s) v) .bad (a ρ s)
def tor (a b : DT) : DT := fun ρ s => R.rec (fun v s => Bool.rec (b ρ s) (.ok true s) v) .bad (a ρ s)
def memb (x : V) (l : List V) : B3 := List.rec .no (fun y zz ih => B3.rec ih (B3.rec .yes .yes .er ih) .er (eqV six y x)) l
def isAt {α : Type} (o : OL α) : Bool := OL.rec false (fun zz => true) o
def tin (a b : DE) : DT := fun ρ s => R.rec (fun x s => R.rec (fun y s => V.on (.bad 12) (fun zz => .bad 12) (fun zz => .bad 12) (fun zz => .bad 12) (fun zz => .bad 12) (fun l => rB (memb x l) s) (fun zz => .bad 12) (fun l => OL.rec (.bad 12) (fun o => .ok (isAt o) s) (dfind x l)) (fun i => onO (.ref i) s (.bad 12) (fun zz zz => .bad 12) (fun zz => .bad 12) (fun l => OL.rec (.bad 12) (fun o => .ok (isAt o) s) (dfind x l))) y) .bad (b ρ s)) .bad (a ρ s)
def vT (a : DT) : DE := fun ρ s => R.rec (fun v s => .ok (.bool v) s) .bad (a ρ s)
def vand (a b : DE) : DE := fun ρ s => R.rec (fun v s => R.rec (fun t s => Bool.rec (.ok v s) (b ρ s) t) .bad (truthy v s)) .bad (a ρ s)
def vor (a b : DE) : DE := fun ρ s => R.rec (fun v s => R.rec (fun t s => Bool.rec (b ρ s) (.ok v s) t) .bad (truthy v s)) .bad (a ρ s)
def ife (t : DT) (a b : DE) : DE := fun ρ s => R.rec (fun v s => Bool.rec (b ρ s) (a ρ s) v) .bad (t ρ s)
def tupE (es : List DE) : DE := fun ρ s => R.rec (fun v s => .ok (.tup v) s) .bad (evs es ρ s)
def lstE (es : List DE) : DE := fun ρ s => R.rec (fun v s => new (.list v) s) .bad (evs es ρ s)
def lstV (es : List DE) : DE := fun ρ s => R.rec (fun v s => .ok (.lst v) s) .bad (evs es ρ s)
def pairUp (ks : List V) : List V → List (V × V) → OL (List (V × V)) := List.rec (motive := fun zz => List V → List (V × V) → OL (List (V × V))) (fun vs d => List.rec (.at d) (fun zz zz zz => .no) vs) (fun k zz ih vs d => List.rec .no (fun v vs zz => OL.rec .no (fun d => ih vs d) (dputC k v d)) vs) ks
def dctE (ks : List V) (es : List DE) : DE := fun ρ s => R.rec (fun v s => OL.rec (.bad 13) (fun d => new (.dict d) s) (pairUp ks v .nil)) .bad (evs es ρ s)
def dctV (ks : List V) (es : List DE) : DE := fun ρ s => R.rec (fun v s => OL.rec (.bad 13) (fun d => .ok (.dct d) s) (pairUp ks v .nil)) .bad (evs es ρ s)
def nth {α : Type} (k : Nat) : List α → OL α := Nat.rec (motive := fun zz => List α → OL α) (fun l => List.rec .no (fun v zz zz => .at v) l) (fun zz ih l => List.rec .no (fun zz t zz => ih t) l) k
def nths {α : Type} (l : List α) (i : Int) : OL α := Int.rec (fun m => Bool.rec .no (nth m l) (Nat.ble m (nat_lit 4096))) (fun m => Bool.rec .no (Bool.rec .no (nth (Nat.sub (len l) (Nat.succ m)) l) (Nat.ble (Nat.succ m) (len l))) (Nat.ble m (nat_lit 4096))) i
def nthp {α : Type} (l : List α) (i : Int) : OL α := Int.rec (fun m => Bool.rec .no (nth m l) (Nat.ble m (nat_lit 4096))) (fun zz => .no) i
def rO (o : OL V) (s : St) : R V := OL.rec (.bad 1) (fun v => .ok v s) o
def idx (a b : DE) : DE := fun ρ s => R.rec (fun x s => R.rec (fun y s => V.on (.bad 1) (fun zz => .bad 1) (fun zz => .bad 1) (fun zz => .bad 1) (fun l => onI y (.bad 1) fun i => Bool.rec (.bad 1) (OL.rec (.bad 1) (fun b => .ok (.int (.ofNat b)) s) (nthp l i)) (Nat.ble (len l) cap)) (fun l => onI y (.bad 1) fun i => rO (nths l i) s) (fun l => onI y (.bad 1) fun i => rO (nthp l i) s) (fun l => OL.rec (.bad 1) (fun o => rO o s) (dfind y l)) (fun i => onO (.ref i) s (.bad 1) (fun zz zz => .bad 1) (fun l => onI y (.bad 1) fun i => rO (nthp l i) s) (fun l => OL.rec (.bad 1) (fun o => rO o s) (dfind y l))) x) .bad (b ρ s)) .bad (a ρ s)
inductive Bd where | no | at (i : Int) | er
def bnd (v : V) : Bd := V.on .no (fun zz => .er) (fun i => .at i) (fun zz => .er) (fun zz => .er) (fun zz => .er) (fun zz => .er) (fun zz => .er) (fun zz => .er) v
def bound (i : Int) (n : Nat) : Nat := Int.rec (fun m => Bool.rec n m (Nat.ble m n)) (fun m => Nat.sub n (Nat.succ m)) i
def take' {α : Type} (n : Nat) : List α → List α := Nat.rec (motive := fun zz => List α → List α) (fun zz => .nil) (fun zz ih l => List.rec .nil (fun v t zz => .cons v (ih t)) l) n
def drop' {α : Type} (n : Nat) : List α → List α := Nat.rec (motive := fun zz => List α → List α) (fun l => l) (fun zz ih l => List.rec .nil (fun zz t zz => ih t) l) n
def cut {α : Type} (l : List α) (lo hi : Bd) : OL (List α) := Bd.rec (Bd.rec (.at l) (fun i => .at (take' (bound i (len l)) l)) .no hi) (fun j => Bd.rec (.at (drop' (bound j (len l)) l)) (fun i => .at (drop' (bound j (len l)) (take' (bound i (len l)) l))) .no hi) .no lo
def slc (a lo hi : DE) : DE := fun ρ s => R.rec (fun x s => R.rec (fun y s => R.rec (fun z s => V.on (.bad 14) (fun zz => .bad 14) (fun zz => .bad 14) (fun zz => .bad 14) (fun l => Bool.rec (.bad 13) (OL.rec (.bad 13) (fun r => .ok (.bytes r) s) (cut l (bnd y) (bnd z))) (Nat.ble (len l) cap)) (fun l => Bool.rec (.bad 13) (OL.rec (.bad 13) (fun r => .ok (.tup r) s) (cut l (bnd y) (bnd z))) (Nat.ble (len l) cap)) (fun zz => .bad 14) (fun zz => .bad 14) (fun zz => .bad 14) x) .bad (hi ρ s)) .bad (lo ρ s)) .bad (a ρ s)
def keys (l : List (V × V)) : List V := List.rec .nil (fun p zz ih => .cons (Prod.rec (fun a zz => a) p) ih) l
def vals (l : List (V × V)) : List V := List.rec .nil (fun p zz ih => .cons (Prod.rec (fun zz b => b) p) ih) l
def intz (l : List Nat) : List V := List.rec .nil (fun n zz ih => .cons (.int (.ofNat n)) ih) l
def itemsOf (v : V) (s : St) : OL (List V) := V.on .no (fun zz => .no) (fun zz => .no) (fun zz => .no) (fun zz => .no) (fun l => .at l) (fun l => .at l) (fun zz => .no) (fun zz => .no) v
def keysU (l : List (V × V)) : OL (List V) := Bool.rec .no (Bool.rec .no (.at (keys l)) (Nat.ble (len l) (nat_lit 63))) (uniq l)
def sortedOf (v : V) (s : St) : OL (List V) := V.on .no (fun zz => .no) (fun zz => .no) (fun zz => .no) (fun zz => .no) (fun zz => .no) (fun zz => .no) (fun l => keysU l) (fun i => onO (.ref i) s .no (fun zz zz => .no) (fun zz => .no) (fun l => keysU l)) v
def onL {β : Type} (o : OL (List V)) (e : β) (f : List V → β) : β := OL.rec e f o
def capL (n : Nat) : OL Nat := Bool.rec .no (.at n) (Nat.ble n cap)
def lenV (v : V) (s : St) (sl : Nat → OL Nat) : OL Nat := V.on .no (fun zz => .no) (fun zz => .no) (fun k => sl k) (fun l => capL (len l)) (fun l => capL (len l)) (fun l => capL (len l)) (fun zz => .no) (fun zz => .no) v
def bLen (sl : Nat → OL Nat) (a : DE) : DE := fun ρ s => R.rec (fun v s => OL.rec (.bad 15) (fun n => .ok (.int (.ofNat n)) s) (lenV v s sl)) .bad (a ρ s)
def insI (i : Int) (l : List V) : OL (List V) := List.rec (.at (.cons (.int i) .nil)) (fun w t ih => onI w .no fun j => Bool.rec (OL.rec .no (fun r => .at (.cons w r)) ih) (.at (.cons (.int i) (.cons w t))) (ltI i j)) l
def sortV (l : List V) : OL (List V) := List.rec (.at .nil) (fun v zz ih => OL.rec .no (fun r => onI v .no fun i => insI i r) ih) l
def bSorted (a : DE) : DE := fun ρ s => R.rec (fun v s => onL (sortedOf v s) (.bad 17) fun l => OL.rec (.bad 16) (fun r => .ok (.lst r) s) (sortV l)) .bad (a ρ s)
def bInt (a : DE) : DE := fun ρ s => R.rec (fun v s => V.on (.bad 18) (fun b => .ok (.int (.ofNat (Bool.rec (nat_lit 0) (nat_lit 1) b))) s) (fun zz => .bad 18) (fun zz => .bad 18) (fun zz => .bad 18) (fun zz => .bad 18) (fun zz => .bad 18) (fun zz => .bad 18) (fun zz => .bad 18) v) .bad (a ρ s)
def toB (v : V) (r : OL (List Nat)) : OL (List Nat) := onI v .no fun i => Int.rec (fun n => Bool.rec .no (OL.rec .no (fun r => .at (.cons n r)) r) (Nat.ble n (nat_lit 255))) (fun zz => .no) i
def toBs (l : List V) : OL (List Nat) := List.rec (.at .nil) (fun v zz ih => toB v ih) l
def zeros (n : Nat) : List Nat := Nat.rec .nil (fun zz ih => .cons (nat_lit 0) ih) n
def bBytes (a : DE) : DE := fun ρ s => R.rec (fun v s => V.on (.bad 20) (fun zz => .bad 20) (fun i => Int.rec (fun n => Bool.rec (.bad 20) (.ok (.bytes (zeros n)) s) (Nat.ble n (nat_lit 1000))) (fun zz => .bad 20) i) (fun zz => .bad 20) (fun l => .ok (.bytes l) s) (fun zz => .bad 20) (fun l => Bool.rec (.bad 19) (OL.rec (.bad 19) (fun r => .ok (.bytes r) s) (toBs l)) (Nat.ble (len l) cap)) (fun zz => .bad 20) (fun zz => .bad 20) v) .bad (a ρ s)
def bMax (a b : DE) : DE := fun ρ s => R.rec (fun x s => R.rec (fun y s => onI x (.bad 21) fun i => onI y (.bad 21) fun j => Bool.rec (.ok x s) (.ok y s) (ltI i j)) .bad (b ρ s)) .bad (a ρ s)
def bMin (a b : DE) : DE := fun ρ s => R.rec (fun x s => R.rec (fun y s => onI x (.bad 22) fun i => onI y (.bad 22) fun j => Bool.rec (.ok x s) (.ok y s) (ltI j i)) .bad (b ρ s)) .bad (a ρ s)
def bDivmod (a b : DE) : DE := fun ρ s => R.rec (fun x s => R.rec (fun y s => onI x (.bad 23) fun i => onI y (.bad 23) fun j => Int.rec (fun n => Bool.rec (.bad 23) (Bool.rec (.ok (.tup (.cons (.int (fdivI i j)) (.cons (.int (fmodI i j)) .nil))) s) (.bad 23) (Nat.beq n (nat_lit 0))) (Nat.ble n (nat_lit 1000000000))) (fun zz => .bad 23) j) .bad (b ρ s)) .bad (a ρ s)
def upto (n : Nat) : Nat → List V := Nat.rec (motive := fun zz => Nat → List V) (fun zz => .nil) (fun zz ih a => .cons (.int (.ofNat a)) (ih (Nat.succ a))) n
def downs (n : Nat) : List V := Nat.rec .nil (fun n ih => .cons (.int (.ofNat n)) ih) n
inductive It where | mk (h : OL V) (l : List V)
abbrev DI := Env → St → R It
def itE (a : DE) : DI := fun ρ s => R.rec (fun v s => V.on (.bad 35) (fun zz => .bad 35) (fun zz => .bad 35) (fun zz => .bad 35) (fun l => .ok (.mk .no (intz l)) s) (fun l => .ok (.mk .no l) s) (fun l => .ok (.mk .no l) s) (fun l => Bool.rec (.bad 35) (.ok (.mk .no (keys l)) s) (uniq l)) (fun i => onO (.ref i) s (.bad 35) (fun zz zz => .bad 35) (fun l => .ok (.mk (.at (.ref i)) l) s) (fun zz => .bad 35)) v) .bad (a ρ s)
def itVals (a : DE) : DI := fun ρ s => R.rec (fun v s => V.on (.bad 31) (fun zz => .bad 31) (fun zz => .bad 31) (fun zz => .bad 31) (fun zz => .bad 31) (fun zz => .bad 31) (fun zz => .bad 31) (fun l => Bool.rec (.bad 31) (.ok (.mk .no (vals l)) s) (uniq l)) (fun zz => .bad 31) v) .bad (a ρ s)
def itR1 (a : DE) : DI := fun ρ s => R.rec (fun v s => onI v (.bad 24) fun i => Int.rec (fun n => Bool.rec (.bad 24) (.ok (.mk .no (upto n (nat_lit 0))) s) (Nat.ble n cap)) (fun zz => .bad 24) i) .bad (a ρ s)
def itR2 (a b : DE) : DI := fun ρ s => R.rec (fun x s => R.rec (fun y s => onI x (.bad 24) fun i => onI y (.bad 24) fun j => Int.rec (fun m => Bool.rec (.bad 24) (Int.rec (fun n => Bool.rec (.bad 24) (.ok (.mk .no (upto (Nat.sub n m) m)) s) (Nat.ble n cap)) (fun zz => .bad 24) j) (Nat.ble m cap)) (fun zz => .bad 24) i) .bad (b ρ s)) .bad (a ρ s)
def itDown (a : DE) : DI := fun ρ s => R.rec (fun v s => onI v (.bad 24) fun i => Int.rec (fun n => Bool.rec (.bad 24) (.ok (.mk .no (downs (Nat.succ n))) s) (Nat.ble n cap)) (fun zz => .bad 24) i) .bad (a ρ s)
def rd (h : OL V) (i : Nat) (x : V) (s : St) : OL V := OL.rec (.at x) (fun v => onO v s .no (fun zz zz => .no) (fun l => nth i l) (fun zz => .no)) h
def fin (h : OL V) (i : Nat) (s : St) : Bool := OL.rec true (fun v => onO v s false (fun zz zz => false) (fun l => OL.rec true (fun zz => false) (nth i l)) (fun zz => false)) h
def bDict (a : DE) : DE := fun ρ s => R.rec (fun v s => V.on (.bad 26) (fun zz => .bad 26) (fun zz => .bad 26) (fun zz => .bad 26) (fun zz => .bad 26) (fun zz => .bad 26) (fun zz => .bad 26) (fun l => OL.rec (.bad 26) (fun zz => Bool.rec (.bad 26) (.ok (.dct l) s) (sameK (.int (.ofNat (nat_lit 0))) l)) (keysU l)) (fun zz => .bad 26) v) .bad (a ρ s)
def sumI (l : List V) : Int → OL Int := List.rec (motive := fun zz => Int → OL Int) (fun n => .at n) (fun v zz ih n => onI v .no fun i => ih (addI n i)) l
def bSum (a : DE) : DE := fun ρ s => R.rec (fun v s => V.on (.bad 27) (fun zz => .bad 27) (fun zz => .bad 27) (fun zz => .bad 27) (fun zz => .bad 27) (fun zz => .bad 27) (fun l => OL.rec (.bad 27) (fun n => .ok (.int n) s) (sumI l (.ofNat (nat_lit 0)))) (fun zz => .bad 27) (fun zz => .bad 27) v) .bad (a ρ s)
def mAppend (a b : DE) : DE := fun ρ s => R.rec (fun x s => onO x s (.bad 28) (fun zz zz => .bad 28) (fun zz => R.rec (fun y s => onO x s (.bad 28) (fun zz zz => .bad 28) (fun l => Bool.rec (.bad 28) (.ok .none (put x (.list (app l (.cons y .nil))) s)) (Nat.ble (len l) cap)) (fun zz => .bad 28)) .bad (b ρ s)) (fun zz => .bad 28)) .bad (a ρ s)
def mPop0 (a : DE) : DE := fun ρ s => R.rec (fun v s => onO v s (.bad 29) (fun zz zz => .bad 29) (fun l => Bool.rec (.bad 29) (List.rec (.bad 29) (fun x t zz => .ok x (put v (.list t) s)) l) (Nat.ble (len l) cap)) (fun zz => .bad 29)) .bad (a ρ s)
def mGet2 (a b c : DE) : DE := fun ρ s => R.rec (fun x s => R.rec (fun y s => R.rec (fun z s => V.on (.bad 30) (fun zz => .bad 30) (fun zz => .bad 30) (fun zz => .bad 30) (fun zz => .bad 30) (fun zz => .bad 30) (fun zz => .bad 30) (fun l => OL.rec (.bad 30) (fun o => OL.rec (.ok z s) (fun v => .ok v s) o) (dfind y l)) (fun zz => .bad 30) x) .bad (c ρ s)) .bad (b ρ s)) .bad (a ρ s)
def indexOf (x : V) (l : List V) : Nat → OL Nat := List.rec (motive := fun zz => Nat → OL Nat) (fun zz => .no) (fun y zz ih n => B3.rec (ih (Nat.succ n)) (.at n) .no (eqV six y x)) l
def mIndex (a b : DE) : DE := fun ρ s => R.rec (fun x s => R.rec (fun y s => V.on (.bad 32) (fun zz => .bad 32) (fun zz => .bad 32) (fun zz => .bad 32) (fun zz => .bad 32) (fun l => OL.rec (.bad 32) (fun n => .ok (.int (.ofNat n)) s) (indexOf y l (nat_lit 0))) (fun zz => .bad 32) (fun zz => .bad 32) (fun zz => .bad 32) x) .bad (b ρ s)) .bad (a ρ s)
def joinB (l : List V) : OL (List Nat) := List.rec (.at .nil) (fun v zz ih => V.on .no (fun zz => .no) (fun zz => .no) (fun zz => .no) (fun b => OL.rec .no (fun r => .at (app b r)) ih) (fun zz => .no) (fun zz => .no) (fun zz => .no) (fun zz => .no) v) l
def mJoin (a : DE) : DE := fun ρ s => R.rec (fun v s => V.on (.bad 33) (fun zz => .bad 33) (fun zz => .bad 33) (fun zz => .bad 33) (fun zz => .bad 33) (fun zz => .bad 33) (fun l => Bool.rec (.bad 33) (OL.rec (.bad 33) (fun r => Bool.rec (.bad 33) (.ok (.bytes r) s) (Nat.ble (len r) cap)) (joinB l)) (Nat.ble (len l) (nat_lit 2))) (fun zz => .bad 33) (fun zz => .bad 33) v) .bad (a ρ s)
def mStr (f : Nat → OL V) (a : DE) : DE := fun ρ s => R.rec (fun v s => V.on (.bad 34) (fun zz => .bad 34) (fun zz => .bad 34) (fun k => rO (f k) s) (fun zz => .bad 34) (fun zz => .bad 34) (fun zz => .bad 34) (fun zz => .bad 34) (fun zz => .bad 34) v) .bad (a ρ s)
def lcs (h : OL V) (k : Nat) (t : DT) (e : DE) (ρ : Env) (l : List V) : Nat → St → R (List V) := List.rec (motive := fun zz => Nat → St → R (List V)) (fun i s => Bool.rec (.bad 36) (.ok .nil s) (fin h i s)) (fun x zz ih i s => OL.rec (.bad 36) (fun x => R.rec (fun b s => Bool.rec (ih (Nat.succ i) s) (R.rec (fun w s => R.rec (fun ws s => .ok (.cons w ws) s) .bad (ih (Nat.succ i) s)) .bad (e (setE k x ρ) s)) b) .bad (t (setE k x ρ) s)) (rd h i x s)) l
def tT : DT := fun zz s => .ok true s
def onIt {β : Type} (x : It) (f : OL V → List V → β) : β := It.rec f x
def lcomp (k : Nat) (it : DI) (t : DT) (e : DE) : DE := fun ρ s => R.rec (fun x s => onIt x fun h l => Bool.rec (.bad 36) (R.rec (fun v s => .ok (.lst v) s) .bad (lcs h k t e ρ l (nat_lit 0) s)) (Nat.ble (len l) cap)) .bad (it ρ s)
def pair {β : Type} (v : V) (e : β) (f : V → V → β) : β := V.on e (fun zz => e) (fun zz => e) (fun zz => e) (fun zz => e) (fun l => List.rec e (fun a l zz => List.rec e (fun b l zz => List.rec (f a b) (fun zz zz zz => e) l) l) l) (fun zz => e) (fun zz => e) (fun zz => e) v
def lcs2 (k k' : Nat) (t : DT) (e : DE) (ρ : Env) (l : List V) : St → R (List V) := List.rec (motive := fun zz => St → R (List V)) (fun s => .ok .nil s) (fun x zz ih s => pair x (.bad 36) fun p q => R.rec (fun b s => Bool.rec (ih s) (R.rec (fun w s => R.rec (fun ws s => .ok (.cons w ws) s) .bad (ih s)) .bad (e (setE k' q (setE k p ρ)) s)) b) .bad (t (setE k' q (setE k p ρ)) s)) l
def lcomp2 (k k' : Nat) (it : DI) (t : DT) (e : DE) : DE := fun ρ s => R.rec (fun x s => onIt x fun h l => OL.rec (Bool.rec (.bad 36) (R.rec (fun v s => .ok (.lst v) s) .bad (lcs2 k k' t e ρ l s)) (Nat.ble (len l) cap)) (fun zz => .bad 36) h) .bad (it ρ s)
def dcs (k : Nat) (t : DT) (a e : DE) (ρ : Env) (l : List V) : List (V × V) → St → R (List (V × V)) := List.rec (motive := fun zz => List (V × V) → St → R (List (V × V))) (fun d s => .ok d s) (fun x zz ih d s => R.rec (fun b s => Bool.rec (ih d s) (R.rec (fun p s => R.rec (fun q s => OL.rec (.bad 37) (fun d => ih d s) (dputC p q d)) .bad (e (setE k x ρ) s)) .bad (a (setE k x ρ) s)) b) .bad (t (setE k x ρ) s)) l
def dcomp (k : Nat) (it : DI) (t : DT) (a e : DE) : DE := fun ρ s => R.rec (fun x s => onIt x fun h l => OL.rec (Bool.rec (.bad 37) (R.rec (fun v s => .ok (.dct v) s) .bad (dcs k t a e ρ l .nil s)) (Nat.ble (len l) cap)) (fun zz => .bad 37) h) .bad (it ρ s)
def dcs2 (k k' : Nat) (t : DT) (a e : DE) (ρ : Env) (l : List V) : List (V × V) → St → R (List (V × V)) := List.rec (motive := fun zz => List (V × V) → St → R (List (V × V))) (fun d s => .ok d s) (fun x zz ih d s => pair x (.bad 38) fun m n => R.rec (fun b s => Bool.rec (ih d s) (R.rec (fun p s => R.rec (fun q s => OL.rec (.bad 37) (fun d => ih d s) (dputC p q d)) .bad (e (setE k' n (setE k m ρ)) s)) .bad (a (setE k' n (setE k m ρ)) s)) b) .bad (t (setE k' n (setE k m ρ)) s)) l
def dcomp2 (k k' : Nat) (it : DI) (t : DT) (a e : DE) : DE := fun ρ s => R.rec (fun x s => onIt x fun h l => OL.rec (Bool.rec (.bad 38) (R.rec (fun v s => .ok (.dct v) s) .bad (dcs2 k k' t a e ρ l .nil s)) (Nat.ble (len l) cap)) (fun zz => .bad 38) h) .bad (it ρ s)
def sq (a b : DS) : DS := fun ρ s => RS.rec (fun ρ s => b ρ s) (fun v s => .ret v s) (fun ρ s => .cont ρ s) .bad (a ρ s)
def skip : DS := fun ρ s => .next ρ s
def asg (k : Nat) (e : DE) : DS := fun ρ s => R.rec (fun v s => .next (setE k v ρ) s) .bad (e ρ s)
def setA (cs : List Nat) (k : Nat) (v x : V) (s : St) (f : St → RS) : RS := onO v s (.bad 40) (fun c fs => Bool.rec (.bad 40) (f (put v (.inst c (setE k x fs)) s)) (mem c cs)) (fun zz => .bad 40) (fun zz => .bad 40)
def seta (cs : List Nat) (k : Nat) (o e : DE) : DS := fun ρ s => R.rec (fun x s => R.rec (fun v s => setA cs k v x s fun s => .next ρ s) .bad (o ρ s)) .bad (e ρ s)
def setL (k : Nat) : V → List V → OL (List V) := Nat.rec (motive := fun zz => V → List V → OL (List V)) (fun x l => List.rec .no (fun zz t zz => .at (.cons x t)) l) (fun zz ih x l => List.rec .no (fun w t zz => OL.rec .no (fun r => .at (.cons w r)) (ih x t)) l) k
def setI (v i x : V) (s : St) (f : St → RS) : RS := onO v s (.bad 41) (fun zz zz => .bad 41) (fun l => onI i (.bad 41) fun i => Int.rec (fun m => Bool.rec (.bad 41) (OL.rec (.bad 41) (fun r => f (put v (.list r) s)) (setL m x l)) (Nat.ble (len l) cap)) (fun zz => .bad 41) i) (fun l => OL.rec (.bad 41) (fun r => f (put v (.dict r) s)) (dputC i x l))
def sets (o i e : DE) : DS := fun ρ s => R.rec (fun x s => R.rec (fun v s => R.rec (fun k s => setI v k x s fun s => .next ρ s) .bad (i ρ s)) .bad (o ρ s)) .bad (e ρ s)
abbrev DA := V → Env → St → RS
def aN (k : Nat) : DA := fun v ρ s => .next (setE k v ρ) s
def aA (cs : List Nat) (k : Nat) (o : DE) : DA := fun x ρ s => R.rec (fun v s => setA cs k v x s fun s => .next ρ s) .bad (o ρ s)
def aAll (as : List DA) : List V → Env → St → RS := List.rec (motive := fun zz => List V → Env → St → RS) (fun l ρ s => List.rec (.next ρ s) (fun zz zz zz => .bad 42) l) (fun a zz ih l ρ s => List.rec (.bad 42) (fun v vs zz => RS.rec (fun ρ s => ih vs ρ s) (fun v s => .ret v s) (fun ρ s => .cont ρ s) .bad (a v ρ s)) l) as
def asgT (as : List DA) (e : DE) : DS := fun ρ s => R.rec (fun v s => onL (itemsOf v s) (.bad 43) fun l => aAll as l ρ s) .bad (e ρ s)
def exq (e : DE) : DS := fun ρ s => R.rec (fun v s => .next ρ s) .bad (e ρ s)
def iff (t : DT) (a b : DS) : DS := fun ρ s => R.rec (fun v s => Bool.rec (b ρ s) (a ρ s) v) .bad (t ρ s)
def forL (h : OL V) (a : DA) (b : DS) (l : List V) : Nat → Env → St → RS := List.rec (motive := fun zz => Nat → Env → St → RS) (fun i ρ s => Bool.rec (.bad 44) (.next ρ s) (fin h i s)) (fun x zz ih i ρ s => OL.rec (.bad 44) (fun v => RS.rec (fun ρ s => RS.rec (fun ρ s => ih (Nat.succ i) ρ s) (fun v s => .ret v s) (fun ρ s => ih (Nat.succ i) ρ s) .bad (b ρ s)) (fun v s => .ret v s) (fun ρ s => .cont ρ s) .bad (a v ρ s)) (rd h i x s)) l
def forS (a : DA) (it : DI) (b : DS) : DS := fun ρ s => R.rec (fun x s => onIt x fun h l => forL h a b l (nat_lit 0) ρ s) .bad (it ρ s)
def badE (k : Nat) : DE := fun zz zz => .bad k
def retS (e : DE) : DS := fun ρ s => R.rec (fun v s => .ret v s) .bad (e ρ s)
def contS : DS := fun ρ s => .cont ρ s
def badS (k : Nat) : DS := fun zz zz => .bad k
def fnD (m : Nat) (b : DS) : DF := fun args s => RS.rec (fun zz s => .ok .none s) (fun v s => .ok v s) (fun zz zz => .bad 45) .bad (b (env args m) s)
end
end Mine
end
section
namespace Mine
open PySem PySem.W PySem.Calls PyProof.Rows
abbrev Led := List (Addr × Obj)
structure Stage where
 prog : Program
 w : World
 K : Frag
 p : Program
 loose : List PySem.Str
 mg : PySem.Str → Option Value
 mb : PySem.Str → Option Value
 cls : Nat → Addr
 nm : Nat → PySem.Str
 an : Nat → Nat → Option PySem.Str
 gens : Array GenState
 drawn : Drawn
 os : OsState
 inj : ∀ i j, nm i = nm j → i = j
 anInj : ∀ c i j x, an c i = some x → an c j = some x → i = j
 anLt : ∀ c i x, an c i = some x → i < 64
abbrev tupOf (vs : List Value) (n : Nat) : Obj := { cls := .type "tuple", data := .seq vs.toArray n }
abbrev lstOf (vs : List Value) (n : Nat) : Obj := { cls := .type "list", data := .seq vs.toArray n }
section
variable (S : Stage)
def Obs (G : Led) (a : Addr) (o : Obj) : Prop := (a, o) ∈ G ∨ S.K.lookup a = some o
inductive Rk : V → DictEntry → Prop
 | int (i t v) : Rk (.int i) ⟨hashInt i, .int i t, v⟩
 | str (k t v) : Rk (.str k) ⟨hashStr S.w (S.nm k), .str (S.nm k) t, v⟩
mutual
inductive Rv (G : Led) (ad : List Addr) : V → Value → Prop
 | none : Rv G ad .none .none
 | bool (b) : Rv G ad (.bool b) (.bool b)
 | int (i t) : Rv G ad (.int i) (.int i t)
 | str (k t) : Rv G ad (.str k) (.str (S.nm k) t)
 | bytes (l : List Nat) (b : Array UInt8) (t) : b.toList.map UInt8.toNat = l → Rv G ad (.bytes l) (.bytes b t)
 | tup (l vs a n) : Obs S G a (tupOf vs n) → Rvs G ad l vs → Rv G ad (.tup l) (.ref a)
 | lst (l vs a n) : Obs S G a (lstOf vs n) → Rvs G ad l vs → Rv G ad (.lst l) (.ref a)
 | dct (l es a n) : Obs S G a (dictOf es n) → Rds G ad l es → Rv G ad (.dct l) (.ref a)
 | ref (i a) : ad[i]? = some a → Rv G ad (.ref i) (.ref a)
inductive Rvs (G : Led) (ad : List Addr) : List V → List Value → Prop
 | nil : Rvs G ad [] []
 | cons {v c l cs} : Rv G ad v c → Rvs G ad l cs → Rvs G ad (v :: l) (c :: cs)
inductive Rds (G : Led) (ad : List Addr) : List (V × V) → List DictEntry → Prop
 | nil : Rds G ad [] []
 | cons {k v e l es} : Rk S k e → Rv G ad v e.val → Rds G ad l es → Rds G ad ((k, v) :: l) (e :: es)
end
variable {S}
theorem Obs.mono {G G' : Led} {a : Addr} {o : Obj} (h : Obs S G a o) (k : G ⊆ G') : Obs S G' a o := h.imp (fun x => k x) id
theorem get_prefix {ad ad' : List Addr} {i : Nat} {a : Addr} (h : ad[i]? = some a) (k : ad <+: ad') : ad'[i]? = some a := by
 obtain ⟨t, rfl⟩ := k
 rw [List.getElem?_append_left (List.getElem?_eq_some_iff.mp h).1]; exact h
theorem Rv.gen {G G' : Led} {ad ad' : List Addr} {v : V} {c : Value} (k1 : ∀ vs n a, Obs S G a (tupOf vs n) → Obs S G' a (tupOf vs n)) (k2 : ∀ vs n a, Obs S G a (lstOf vs n) → Obs S G' a (lstOf vs n)) (k3 : ∀ vs n a, Obs S G a (dictOf vs n) → Obs S G' a (dictOf vs n)) (j : ∀ (i : Nat) (a : Addr), ad[i]? = some a → ad'[i]? = some a) (h : Rv S G ad v c) : Rv S G' ad' v c :=
 Rv.rec (motive_1 := fun v c zz => Rv S G' ad' v c) (motive_2 := fun l cs zz => Rvs S G' ad' l cs) (motive_3 := fun l es zz => Rds S G' ad' l es) .none .bool .int .str .bytes (fun l vs a n o zz r => .tup l vs a n (k1 _ _ _ o) r) (fun l vs a n o zz r => .lst l vs a n (k2 _ _ _ o) r) (fun l es a n o zz r => .dct l es a n (k3 _ _ _ o) r) (fun i a e => .ref i a (j i a e)) .nil (fun zz zz a r => .cons a r) .nil (fun q zz zz a r => .cons q a r) h
theorem Rv.mono {G G' : Led} {ad ad' : List Addr} {v : V} {c : Value} (k : G ⊆ G') (j : ad <+: ad') (h : Rv S G ad v c) : Rv S G' ad' v c := h.gen (fun zz zz zz o => o.mono k) (fun zz zz zz o => o.mono k) (fun zz zz zz o => o.mono k) fun zz zz e => get_prefix e j
theorem Rvs.ind {G : Led} {ad : List Addr} {l : List V} {cs : List Value} (h : Rvs S G ad l cs) {P : List V → List Value → Prop} (h0 : P [] []) (h1 : ∀ {v c l cs}, Rv S G ad v c → Rvs S G ad l cs → P l cs → P (v :: l) (c :: cs)) : P l cs :=
 Rvs.rec (motive_1 := fun zz zz zz => True) (motive_2 := fun l cs zz => P l cs) (motive_3 := fun zz zz zz => True) trivial (fun zz => trivial) (fun zz zz => trivial) (fun zz zz => trivial) (fun zz zz zz zz => trivial) (fun zz zz zz zz zz zz zz => trivial) (fun zz zz zz zz zz zz zz => trivial) (fun zz zz zz zz zz zz zz => trivial) (fun zz zz zz => trivial) h0 (fun a r zz ih => h1 a r ih) trivial (fun zz zz zz zz zz => trivial) h
theorem Rds.ind {G : Led} {ad : List Addr} {l : List (V × V)} {es : List DictEntry} (h : Rds S G ad l es) {P : List (V × V) → List DictEntry → Prop} (h0 : P [] []) (h1 : ∀ {k v e l es}, Rk S k e → Rv S G ad v e.val → Rds S G ad l es → P l es → P ((k, v) :: l) (e :: es)) : P l es :=
 Rds.rec (motive_1 := fun zz zz zz => True) (motive_2 := fun zz zz zz => True) (motive_3 := fun l es zz => P l es) trivial (fun zz => trivial) (fun zz zz => trivial) (fun zz zz => trivial) (fun zz zz zz zz => trivial) (fun zz zz zz zz zz zz zz => trivial) (fun zz zz zz zz zz zz zz => trivial) (fun zz zz zz zz zz zz zz => trivial) (fun zz zz zz => trivial) trivial (fun zz zz zz zz => trivial) h0 (fun q a r zz ih => h1 q a r ih) h
theorem Rvs.mono {G G' : Led} {ad ad' : List Addr} {v : List V} {c : List Value} (k : G ⊆ G') (j : ad <+: ad') (h : Rvs S G ad v c) : Rvs S G' ad' v c := h.ind .nil (fun a zz r => .cons (a.mono k j) r)
theorem Rds.mono {G G' : Led} {ad ad' : List Addr} {v : List (V × V)} {c : List DictEntry} (k : G ⊆ G') (j : ad <+: ad') (h : Rds S G ad v c) : Rds S G' ad' v c := h.ind .nil (fun q a zz r => .cons q (a.mono k j) r)
section
variable {G : Led} {ad : List Addr} {P : Value → Prop} {c : Value} {l : List V}
theorem Rv.eint {i : Int} (h : Rv S G ad (.int i) c) (k : ∀ t, P (.int i t)) : P c := by cases h; exact k _
theorem Rv.estr {i : Nat} (h : Rv S G ad (.str i) c) (k : ∀ t, P (.str (S.nm i) t)) : P c := by cases h; exact k _
theorem Rv.ebytes {x : List Nat} (h : Rv S G ad (.bytes x) c) (k : ∀ (b : Array UInt8) t, b.toList.map UInt8.toNat = x → P (.bytes b t)) : P c := by cases h; exact k _ _ (by assumption)
theorem Rv.etup (h : Rv S G ad (.tup l) c) (k : ∀ vs a n, Obs S G a (tupOf vs n) → Rvs S G ad l vs → P (.ref a)) : P c := by cases h; exact k _ _ _ (by assumption) (by assumption)
theorem Rv.elst (h : Rv S G ad (.lst l) c) (k : ∀ vs a n, Obs S G a (lstOf vs n) → Rvs S G ad l vs → P (.ref a)) : P c := by cases h; exact k _ _ _ (by assumption) (by assumption)
theorem Rv.edct {m : List (V × V)} (h : Rv S G ad (.dct m) c) (k : ∀ es a n, Obs S G a (dictOf es n) → Rds S G ad m es → P (.ref a)) : P c := by cases h; exact k _ _ _ (by assumption) (by assumption)
theorem Rv.eref {i : Nat} (h : Rv S G ad (.ref i) c) (k : ∀ a, ad[i]? = some a → P (.ref a)) : P c := by cases h; exact k _ (by assumption)
theorem Rvs.enil {P : List Value → Prop} {cs : List Value} (h : Rvs S G ad [] cs) (k : P []) : P cs := by cases h; exact k
theorem Rvs.econs {P : List Value → Prop} {cs : List Value} {v : V} (h : Rvs S G ad (v :: l) cs) (k : ∀ c r, Rv S G ad v c → Rvs S G ad l r → P (c :: r)) : P cs := by cases h; exact k _ _ (by assumption) (by assumption)
end
theorem Rvs.length {G : Led} {ad : List Addr} : ∀ {v : List V} {c : List Value}, Rvs S G ad v c → c.length = v.length := fun r => r.ind (P := fun v c => c.length = v.length) rfl (fun zz zz e => congrArg (· + 1) e)
theorem Rvs.append {G : Led} {ad : List Addr} : ∀ {v v' : List V} {c c' : List Value}, Rvs S G ad v c → Rvs S G ad v' c' → Rvs S G ad (v ++ v') (c ++ c') := fun r r' => r.ind (P := fun v c => Rvs S G ad (v ++ _) (c ++ _)) r' (fun a zz r => .cons a r)
def getE : Nat → Env → Option V
 | _, .nil => none
 | 0, .un _ => none
 | 0, .cons v _ => some v
 | k + 1, .un t => getE k t
 | k + 1, .cons _ t => getE k t
theorem nthE_nil (k : Nat) (s : St) : nthE k .nil s = .bad 1 := by cases k <;> rfl
theorem nthE_ok : ∀ {k : Nat} {ρ : Env} {s s' : St} {v : V}, nthE k ρ s = .ok v s' → getE k ρ = some v ∧ s' = s
 | 0, .nil, _, _, _, h => by cases h
 | 0, .un _, _, _, _, h => by cases h
 | 0, .cons _ _, _, _, _, h => by cases h; exact ⟨rfl, rfl⟩
 | k + 1, .nil, _, _, _, h => by rw [nthE_nil] at h; cases h
 | k + 1, .un t, _, _, _, h => nthE_ok (k := k) (ρ := t) h
 | k + 1, .cons _ t, _, _, _, h => nthE_ok (k := k) (ρ := t) h
theorem getE_set : ∀ (k : Nat) (x : V) (ρ : Env) (j : Nat) (v : V), getE j (setE k x ρ) = some v → (j = k ∧ v = x) ∨ (j ≠ k ∧ getE j ρ = some v)
 | 0, x, .nil, j, v, h => by cases j <;> cases h
 | 0, x, .un t, j, v, h => by
  cases j with
  | zero => cases h; exact .inl ⟨rfl, rfl⟩
  | succ j => exact .inr ⟨by omega, h⟩
 | 0, x, .cons _ t, j, v, h => by
  cases j with
  | zero => cases h; exact .inl ⟨rfl, rfl⟩
  | succ j => exact .inr ⟨by omega, h⟩
 | k + 1, x, .nil, j, v, h => by cases j <;> cases h
 | k + 1, x, .un t, j, v, h => by
  cases j with
  | zero => cases h
  | succ j => rcases getE_set k x t j v h with ⟨a, b⟩ | ⟨a, b⟩; exact .inl ⟨by omega, b⟩; exact .inr ⟨by omega, b⟩
 | k + 1, x, .cons w t, j, v, h => by
  cases j with
  | zero => exact .inr ⟨by omega, h⟩
  | succ j => rcases getE_set k x t j v h with ⟨a, b⟩ | ⟨a, b⟩; exact .inl ⟨by omega, b⟩; exact .inr ⟨by omega, b⟩
def atT : T → Nat → Option O
 | .nil, _ => none
 | .node o l r, i => match Nat.beq i 0 with
  | true => some o
  | false => match Nat.beq (i % 2) 1 with
   | true => atT l (i / 2)
   | false => atT r (i / 2 - 1)
theorem getT_eq : ∀ (t : T) (i : Nat), getT t i = match atT t i with | some o => .at o | none => .no
 | .nil, i => rfl
 | .node o l r, i => by
  show (Bool.rec (Bool.rec (getT r (i / 2 - 1)) (getT l (i / 2)) (Nat.beq (i % 2) 1)) (.at o) (Nat.beq i 0) : OL O) = _
  unfold atT
  cases h : Nat.beq i 0 with
  | true => rfl
  | false =>
   cases h2 : Nat.beq (i % 2) 1 with
   | true => exact getT_eq l (i / 2)
   | false => exact getT_eq r (i / 2 - 1)
theorem atT_node (o : O) (l r : T) (i : Nat) : atT (.node o l r) i = if i = 0 then some o else if i % 2 = 1 then atT l (i / 2) else atT r (i / 2 - 1) := by
 show (match Nat.beq i 0 with | true => some o | false => match Nat.beq (i % 2) 1 with | true => atT l (i / 2) | false => atT r (i / 2 - 1)) = _
 rw [BT.beq_eq, BT.beq_eq]
 by_cases h : i = 0
 · simp [h]
 · by_cases q : i % 2 = 1 <;> simp [h, q]
theorem setT_nil (i : Nat) (o : O) : setT .nil i o = .node o .nil .nil := rfl
theorem setT_node (v : O) (l r : T) (i : Nat) (o : O) : setT (.node v l r) i o = if i = 0 then .node o l r else if i % 2 = 1 then .node v (setT l (i / 2) o) r else .node v l (setT r (i / 2 - 1) o) := by
 show (Bool.rec (Bool.rec (T.node v l (setT r (i / 2 - 1) o)) (.node v (setT l (i / 2) o) r) (Nat.beq (i % 2) 1)) (.node o l r) (Nat.beq i 0) : T) = _
 rw [BT.beq_eq, BT.beq_eq]
 by_cases h : i = 0
 · simp [h]
 · by_cases q : i % 2 = 1 <;> simp [h, q]
theorem atT_nil (i : Nat) : atT .nil i = none := by unfold atT; rfl
theorem atT_set (o : O) : ∀ (t : T) (a : Nat), (atT (setT t a o) a).isSome = true → ∀ i, atT (setT t a o) i = if i = a then some o else atT t i
 | .nil, a, h, i => by
  rw [setT_nil, atT_node] at h
  have ha : a = 0 := by
   by_cases q : a = 0
   · exact q
   · exfalso; revert h; by_cases p : a % 2 = 1 <;> simp [q, p, atT_nil]
  subst ha
  rw [setT_nil, atT_node]
  by_cases hi : i = 0
  · simp [hi]
  · by_cases p : i % 2 = 1 <;> simp [hi, p, atT_nil]
 | .node v l r, a, h, i => by
  rw [setT_node] at h ⊢
  rw [atT_node v l r i]
  by_cases ha : a = 0
  · subst ha
    rw [if_pos rfl, atT_node]
    by_cases hi : i = 0 <;> simp [hi]
  · rw [if_neg ha] at h ⊢
    by_cases pa : a % 2 = 1
    · rw [if_pos pa] at h ⊢
      rw [atT_node, if_neg ha, if_pos pa] at h
      rw [atT_node]
      by_cases hi : i = 0
      · simp [hi, Ne.symm ha]
      · by_cases pi : i % 2 = 1
        · simp only [hi, pi, if_true, if_false, atT_set o l _ h]
          by_cases e : i = a
          · simp [e]
          · have : i / 2 ≠ a / 2 := by omega
            simp [e, this]
        · have : i ≠ a := fun q => pi (q ▸ pa)
          simp [hi, pi, this]
    · rw [if_neg pa] at h ⊢
      rw [atT_node, if_neg ha, if_neg pa] at h
      rw [atT_node]
      by_cases hi : i = 0
      · simp [hi, Ne.symm ha]
      · by_cases pi : i % 2 = 1
        · have : i ≠ a := fun q => pa (q ▸ pi)
          simp [hi, pi, this]
        · simp only [hi, pi, if_false, atT_set o r _ h]
          by_cases e : i = a
          · simp [e]
          · have : i / 2 - 1 ≠ a / 2 - 1 := by omega
            simp [e, this]
theorem atT_self (o o₀ : O) : ∀ (t : T) (a : Nat), atT t a = some o₀ → (atT (setT t a o) a).isSome = true
 | .nil, a, h => by rw [atT_nil] at h; cases h
 | .node v l r, a, h => by
  rw [setT_node]
  rw [atT_node] at h
  by_cases ha : a = 0
  · rw [if_pos ha, atT_node, if_pos ha]; rfl
  · rw [if_neg ha] at h ⊢
    by_cases pa : a % 2 = 1
    · rw [if_pos pa] at h ⊢
      rw [atT_node, if_neg ha, if_pos pa]; exact atT_self o o₀ l _ h
    · rw [if_neg pa] at h ⊢
      rw [atT_node, if_neg ha, if_neg pa]; exact atT_self o o₀ r _ h
inductive All2 {α β : Type} (R : α → β → Prop) : List α → List β → Prop
 | nil : All2 R [] []
 | cons {a b l m} : R a b → All2 R l m → All2 R (a :: l) (b :: m)
theorem All2.length {α β : Type} {R : α → β → Prop} : ∀ {l : List α} {m : List β}, All2 R l m → l.length = m.length := fun h => by
 induction h with
 | nil => rfl
 | cons _ _ ih => exact congrArg (· + 1) ih
variable (S)
def KeyAt (c k : Nat) (e : DictEntry) : Prop := ∃ x t, S.an c k = some x ∧ e.key = .str x t ∧ e.hash = PyData.keyHash S.w.params x
def AtRel (G : Led) (ad : List Addr) (c : Nat) (f : Env) (es : List DictEntry) : Prop :=
 (∃ ks : List Nat, ks.Nodup ∧ All2 (KeyAt S c) ks es) ∧
 ∀ k v, getE k f = some v → ∃ x cv, S.an c k = some x ∧ getL x es = some (some cv) ∧ Rv S G ad v cv
inductive ObRel (G : Led) (ad : List Addr) : O → Addr → Addr → Obj → Prop
 | inst (c f a d es n) : Obs S G a (instObj (S.cls c) d) → AtRel S G ad c f es → ObRel G ad (.inst c f) a d (dictOf es n)
 | list (l vs a n) : Rvs S G ad l vs → ObRel G ad (.list l) a a (lstOf vs n)
 | dict (l es a n) : Rds S G ad l es → ObRel G ad (.dict l) a a (dictOf es n)
def HpRel (G D : Led) (ad : List Addr) (st : St) : Prop :=
 st.n = D.length ∧ ad.length = D.length ∧ ∀ i o, atT st.t i = some o → ∃ a d ob, ad[i]? = some a ∧ D[i]? = some (d, ob) ∧ ObRel S G ad o a d ob
def VarAt (env : PySem.Env) (m : PySem.Str → Option Value) (C : Led) (x : PySem.Str) (cv : Value) : Prop :=
 (env.kindOf x = some .local ∧ m x = some cv) ∨ ((env.kindOf x = some .cell ∨ env.kindOf x = some .free) ∧ ∃ c o, env.cells.lookup x = some c ∧ (c, o) ∈ C ∧ o.data = .cell (some cv))
def ERel (env : PySem.Env) (m : PySem.Str → Option Value) (C G : Led) (ad : List Addr) (ns : List (Option PySem.Str)) (ρ : Env) : Prop :=
 ∀ k v x, getE k ρ = some v → ns[k]? = some (some x) → ∃ cv, VarAt env m C x cv ∧ Rv S G ad v cv
structure Fix (sc : Scope) (ns : List (Option PySem.Str)) (env : PySem.Env) (h₀ : Heap) : Prop where
 esc : env.scope = sc
 kind : sc.kind = .function
 glob : env.globals = mainGlobals
 blt : env.builtins = builtinsNs
 kin : S.K.In h₀
 top : TopRead S.p S.loose S.mg S.mb h₀
 nsok : ∀ x : PySem.Str, some x ∈ ns → (x == ("__debug__" : PySem.Str)) = false ∧ (x == ("__classdict__" : PySem.Str)) = false
 ninj : ∀ (i j : Nat) (x : PySem.Str), ns[i]? = some (some x) → ns[j]? = some (some x) → i = j
 cinj : ∀ x y c, env.cells.lookup x = some c → env.cells.lookup y = some c → x = y
 cell : ∀ x, sc.names.lookup x = some .cell → ∃ c, env.cells.lookup x = some c
 sysm : ∃ o, h₀.get? sysModules = some o
structure Rel (ns : List (Option PySem.Str)) (env : PySem.Env) (h₀ : Heap) (m : PySem.Str → Option Value) (G D C : Led) (ad : List Addr) (ρ : Env) (st : St) (s : Shared) : Prop where
 fr : Fr h₀ env.locals s.heap m
 nw : News h₀ env.locals s.heap (G ++ (D ++ C))
 gd : ∀ p ∈ G, ∀ q ∈ D ++ C, p.1 ≠ q.1
 nod : ((D ++ C).map (·.1)).Nodup
 hp : HpRel S G D ad st
 er : ERel S env m C G ad ns ρ
 gens : s.gens = S.gens
 drawn : s.drawn = S.drawn
 os : s.os = S.os
 cl : ∀ x c, env.cells.lookup x = some c → ∃ o v, (c, o) ∈ C ∧ o.data = .cell v
structure Room (n : Nat) (A : Around) : Prop where
 hd : A.handled = none
 dp : A.depth + 8 * n + 8 < recursionLimit
 un : A.units + 40 * n + 80 < cLine
structure SE (n : Nat) (sc : Scope) (ns : List (Option PySem.Str)) (e : PySem.Expr) (d : DE) : Prop where I ::
 go : ∀ {A : Around} {E : Value → Shared → Prop} {Q : Value → Shared → Prop} {env h₀ m G D C ad ρ st s v st'}, Room n A → Fix S sc ns env h₀ → Rel S ns env h₀ m G D C ad ρ st s → d ρ st = .ok v st' →
  (∀ s' G' D' ad' cv, Rel S ns env h₀ m G' D' C ad' ρ st' s' → G ⊆ G' → ad <+: ad' → Rv S G' ad' v cv → Q cv s') →
  wpAny (model S.prog S.w) A (eval e env) Q E s
structure ST (n : Nat) (sc : Scope) (ns : List (Option PySem.Str)) (e : PySem.Expr) (d : DT) : Prop where I ::
 go : ∀ {A : Around} {E : Value → Shared → Prop} {Q : Bool → Shared → Prop} {env h₀ m G D C ad ρ st s b st'}, Room n A → Fix S sc ns env h₀ → Rel S ns env h₀ m G D C ad ρ st s → d ρ st = .ok b st' →
  (∀ s' G' D' ad', Rel S ns env h₀ m G' D' C ad' ρ st' s' → G ⊆ G' → ad <+: ad' → Q b s') →
  wpAny (model S.prog S.w) A (isTrue e env (eval e env)) Q E s
inductive SNx (ns : List (Option PySem.Str)) (env : PySem.Env) (h₀ : Heap) (G C : Led) (ad : List Addr) (ρ : Env) (st : St) (f fl : Flow) (s : Shared) : Prop
 | mk (x : fl = f) (m : PySem.Str → Option Value) (G' D' C' : Led) (ad' : List Addr) (R : Rel S ns env h₀ m G' D' C' ad' ρ st s) (g : G ⊆ G') (p : ad <+: ad') (c : C'.map (·.1) = C.map (·.1)) : SNx ns env h₀ G C ad ρ st f fl s
inductive SRt (ns : List (Option PySem.Str)) (env : PySem.Env) (h₀ : Heap) (G C : Led) (ad : List Addr) (v : V) (st : St) (fl : Flow) (s : Shared) : Prop
 | mk (cv : Value) (m : PySem.Str → Option Value) (G' D' C' : Led) (ad' : List Addr) (x : fl = .ret cv) (R : Rel S ns env h₀ m G' D' C' ad' .nil st s) (g : G ⊆ G') (p : ad <+: ad') (c : C'.map (·.1) = C.map (·.1)) (r : Rv S G' ad' v cv) : SRt ns env h₀ G C ad v st fl s
def SPost (ns : List (Option PySem.Str)) (env : PySem.Env) (h₀ : Heap) (G C : Led) (ad : List Addr) : RS → Flow → Shared → Prop
 | .next ρ st, fl, s => SNx S ns env h₀ G C ad ρ st .next fl s
 | .cont ρ st, fl, s => SNx S ns env h₀ G C ad ρ st .cont fl s
 | .ret v st, fl, s => SRt S ns env h₀ G C ad v st fl s
 | .bad _, _, _ => False
structure SS (n : Nat) (sc : Scope) (ns : List (Option PySem.Str)) (t : List Stmt) (d : DS) : Prop where I ::
 go : ∀ {A : Around} {E : Value → Shared → Prop} {Q : Flow → Shared → Prop} {env h₀ m G D C ad ρ st s}, Room n A → Fix S sc ns env h₀ → Rel S ns env h₀ m G D C ad ρ st s → (∀ k, d ρ st ≠ .bad k) →
  (∀ fl s', SPost S ns env h₀ G C ad (d ρ st) fl s' → Q fl s') →
  wpAny (model S.prog S.w) A (execs t env) Q E s
structure S1 (n : Nat) (sc : Scope) (ns : List (Option PySem.Str)) (t : Stmt) (d : DS) : Prop where I ::
 go : ∀ {A : Around} {E : Value → Shared → Prop} {Q : Flow → Shared → Prop} {env h₀ m G D C ad ρ st s}, Room n A → Fix S sc ns env h₀ → Rel S ns env h₀ m G D C ad ρ st s → (∀ k, d ρ st ≠ .bad k) →
  (∀ fl s', SPost S ns env h₀ G C ad (d ρ st) fl s' → Q fl s') →
  wpAny (model S.prog S.w) A (exec t env) Q E s
end
end Mine
end
section
namespace Mine
open PySem PySem.W PySem.Calls PyProof.Rows
theorem R_ok {α β : Type} {m : R α} {f : α → St → R β} {b : β} {s' : St} (h : (R.rec (fun v s => f v s) .bad m : R β) = .ok b s') : ∃ v s, m = .ok v s ∧ f v s = .ok b s' := by
 cases m with
 | ok v s => exact ⟨v, s, rfl, h⟩
 | bad k => cases h
theorem RS_ok {α : Type} {m : R α} {f : α → St → RS} (h : ∀ k, (R.rec (fun v s => f v s) .bad m : RS) ≠ .bad k) : ∃ v s, m = .ok v s ∧ (R.rec (fun v s => f v s) .bad m : RS) = f v s := by
 cases m with
 | ok v s => exact ⟨v, s, rfl, rfl⟩
 | bad k => exact absurd rfl (h k)
section
variable {S : Stage} {n : Nat} {sc : Scope} {ns : List (Option PySem.Str)}
section
variable {env : PySem.Env} {h₀ : Heap} {m : PySem.Str → Option Value} {G D C : Led} {ad : List Addr} {ρ : Env} {st : St} {s : Shared}
theorem Rel.toks (R : Rel S ns env h₀ m G D C ad ρ st s) (t : Tok) : Rel S ns env h₀ m G D C ad ρ st { s with toks := t } := ⟨R.fr, R.nw, R.gd, R.nod, R.hp, R.er, R.gens, R.drawn, R.os, R.cl⟩
theorem Rel.obs (R : Rel S ns env h₀ m G D C ad ρ st s) (F : Fix S sc ns env h₀) {a : Addr} {o : Obj} (h : Obs S G a o) : s.heap.get? a = some o := by
 rcases h with h | h
 · exact R.nw.get (List.mem_append_left _ h)
 · exact R.fr.keep _ _ (F.kin _ _ h)
theorem AtRel.mono {c : Nat} {f : Env} {es : List DictEntry} {G' : Led} {ad' : List Addr} (k : G ⊆ G') (j : ad <+: ad') (h : AtRel S G ad c f es) : AtRel S G' ad' c f es :=
 ⟨h.1, fun i v e => let ⟨x, cv, a, b, r⟩ := h.2 i v e; ⟨x, cv, a, b, r.mono k j⟩⟩
theorem ObRel.mono {o : O} {a d : Addr} {ob : Obj} {G' : Led} {ad' : List Addr} (k : G ⊆ G') (j : ad <+: ad') (h : ObRel S G ad o a d ob) : ObRel S G' ad' o a d ob := by
 cases h with
 | inst c f a d es n x y => exact .inst c f a d es n (x.mono k) (y.mono k j)
 | list l vs a n x => exact .list l vs a n (x.mono k j)
 | dict l es a n x => exact .dict l es a n (x.mono k j)
theorem HpRel.mono {G' : Led} (k : G ⊆ G') (h : HpRel S G D ad st) : HpRel S G' D ad st :=
 ⟨h.1, h.2.1, fun i o e => let ⟨a, d, ob, x, y, z⟩ := h.2.2 i o e; ⟨a, d, ob, x, y, z.mono k (List.prefix_refl _)⟩⟩
theorem ERel.mono {G' : Led} {ad' : List Addr} (k : G ⊆ G') (j : ad <+: ad') (h : ERel S env m C G ad ns ρ) : ERel S env m C G' ad' ns ρ :=
 fun i v x e f => let ⟨cv, b, r⟩ := h i v x e f; ⟨cv, b, r.mono k j⟩
theorem Rel.lt (R : Rel S ns env h₀ m G D C ad ρ st s) : ∀ p ∈ G ++ (D ++ C), p.1 < s.heap.objs.size := fun p hp => Heap.lt_size (R.nw p hp).1
theorem Rel.more (R : Rel S ns env h₀ m G D C ad ρ st s) {a : Addr} {o : Obj} {h' : Heap} (t : Tok) (F' : Fr h₀ env.locals h' m) (N' : News h₀ env.locals h' ((a, o) :: (G ++ (D ++ C)))) (ha : ∀ p ∈ G ++ (D ++ C), p.1 < a) :
 Rel S ns env h₀ m ((a, o) :: G) D C ad ρ st { s with heap := h', toks := t } :=
 ⟨F', N', fun p hp q hq => by
  rcases List.mem_cons.mp hp with rfl | hp
  · exact Nat.ne_of_gt (ha q (List.mem_append_right _ hq))
  · exact R.gd p hp q hq, R.nod, R.hp.mono (List.subset_cons_self _ _), R.er.mono (List.subset_cons_self _ _) (List.prefix_refl _), R.gens, R.drawn, R.os, R.cl⟩
theorem Rel.noEnv (R : Rel S ns env h₀ m G D C ad ρ st s) : Rel S ns env h₀ m G D C ad .nil st s :=
 ⟨R.fr, R.nw, R.gd, R.nod, R.hp, (fun k v x e => by cases k <;> cases e), R.gens, R.drawn, R.os, R.cl⟩
end
theorem SE.int {i : Int} {k : Nat} {pos : Pos} : SE S n sc ns (.Constant (.int i) k pos) (cst (.int i)) := ⟨fun zz zz R h q => by
 cases h
 exact wpAny_Constant_int (q _ _ _ _ _ (R.toks _) (List.Subset.refl _) (List.prefix_refl _) (.int i _))⟩
theorem SE.str {j : Nat} {x : PySem.Str} {k : Nat} {pos : Pos} (e : S.nm j = x := by kernel_rfl) : SE S n sc ns (.Constant (.str x) k pos) (cst (.str j)) := ⟨fun zz zz R h q => by
 cases h; subst e
 exact Calls.Constant_str (q _ _ _ _ _ (R.toks _) (List.Subset.refl _) (List.prefix_refl _) (.str j _))⟩
theorem SE.bytes {x : List UInt8} {l : List Nat} {k : Nat} {pos : Pos} (e : x.map UInt8.toNat = l := by decide) : SE S n sc ns (.Constant (.bytes x) k pos) (cst (.bytes l)) := ⟨fun zz zz R h q => by
 cases h
 exact PySem.W.Constant_bytes (q _ _ _ _ _ (R.toks _) (List.Subset.refl _) (List.prefix_refl _) (.bytes l _ _ (by simpa using e)))⟩
theorem SE.bool {b : Bool} {k : Nat} {pos : Pos} : SE S n sc ns (.Constant (.bool b) k pos) (cst (.bool b)) := ⟨fun zz zz R h q => by
 cases h
 exact Constant_bool (q _ _ _ _ _ R (List.Subset.refl _) (List.prefix_refl _) (.bool b))⟩
theorem SE.none {k : Nat} {pos : Pos} : SE S n sc ns (.Constant .none k pos) (cst .none) := ⟨fun zz zz R h q => by
 cases h
 exact Constant_none (q _ _ _ _ _ R (List.Subset.refl _) (List.prefix_refl _) .none)⟩
theorem kindOf_eq {env : PySem.Env} {h₀ : Heap} (F : Fix S sc ns env h₀) (x : PySem.Str) : env.kindOf x = sc.names.lookup x := by
 show env.scope.names.lookup x = _
 rw [F.esc]
theorem name_var {A : Around} {E : Value → Shared → Prop} {Q : Value → Shared → Prop} {env : PySem.Env} {h₀ : Heap} {m : PySem.Str → Option Value} {G D C : Led} {ad : List Addr} {ρ : Env} {st : St} {s : Shared} {x : PySem.Str} {cv : Value} {pos : Pos}
 (F : Fix S sc ns env h₀) (R : Rel S ns env h₀ m G D C ad ρ st s) (hx : some x ∈ ns) (va : VarAt env m C x cv) (q : Q cv s) : wpAny (model S.prog S.w) A (eval (.Name x pos) env) Q E s := by
 obtain ⟨h1, h2⟩ := F.nsok x hx
 have hk : env.scope.kind = .function := by rw [F.esc]; exact F.kind
 rcases va with ⟨a, b⟩ | ⟨a | a, c, o, hc, hm, hd⟩
 · exact wpAny_Name (wpAny_loadName_local hk a R.fr.ns b q) h1
 · exact wpAny_Name (wpAny_loadName_cell hk a hc ⟨o, R.nw.get (List.mem_append_right _ (List.mem_append_right _ hm)), hd⟩ q) h1
 · exact wpAny_Name (wpAny_loadName_free hk a hc ⟨o, R.nw.get (List.mem_append_right _ (List.mem_append_right _ hm)), hd⟩ q h2) h1
theorem SE.loc {k : Nat} {x : PySem.Str} {pos : Pos} (e : ns[k]? = some (some x) := by kernel_rfl) : SE S n sc ns (.Name x pos) (loc k) := ⟨fun zz F R h q => by
 obtain ⟨h1, rfl⟩ := nthE_ok h
 obtain ⟨cv, b, r⟩ := R.er k _ x h1 e
 exact name_var F R (List.mem_of_getElem? e) b (q _ _ _ _ _ R (List.Subset.refl _) (List.prefix_refl _) r)⟩
theorem name_glob {A : Around} {E : Value → Shared → Prop} {Q : Value → Shared → Prop} {env : PySem.Env} {h₀ : Heap} {m : PySem.Str → Option Value} {G D C : Led} {ad : List Addr} {ρ : Env} {st : St} {s : Shared} {x : PySem.Str} {cv : Value} {pos : Pos}
 (F : Fix S sc ns env h₀) (R : Rel S ns env h₀ m G D C ad ρ st s) (hk : sc.names.lookup x = some .globalImplicit) (e : nsIn S.K mainGlobals x = some (some cv)) (hd : (x == ("__debug__" : PySem.Str)) = false) (q : Q cv s) : wpAny (model S.prog S.w) A (eval (.Name x pos) env) Q E s :=
 Name_function_global (by rw [F.esc]; exact F.kind) ((kindOf_eq F x).trans hk) (loadGlobal_global (by rw [F.glob]; exact F.top.g.keeps R.fr.keep) (mg_of F.kin F.top.g e) q) hd
theorem name_blt {A : Around} {E : Value → Shared → Prop} {Q : Value → Shared → Prop} {env : PySem.Env} {h₀ : Heap} {m : PySem.Str → Option Value} {G D C : Led} {ad : List Addr} {ρ : Env} {st : St} {s : Shared} {x : PySem.Str} {cv : Value} {pos : Pos}
 (F : Fix S sc ns env h₀) (R : Rel S ns env h₀ m G D C ad ρ st s) (hk : sc.names.lookup x = some .globalImplicit) (e : nsIn S.K mainGlobals x = some none) (hv : bootBuiltins x = some cv) (hn : x ≠ "__name__") (hd : (x == ("__debug__" : PySem.Str)) = false) (q : Q cv s) : wpAny (model S.prog S.w) A (eval (.Name x pos) env) Q E s :=
 Name_function_global (by rw [F.esc]; exact F.kind) ((kindOf_eq F x).trans hk) (loadGlobal_builtin (by rw [F.glob]; exact F.top.g.keeps R.fr.keep) (mg_none_of F.kin F.top.g e) (by rw [F.blt]; exact F.top.b.keeps R.fr.keep) ((F.top.builtins x hn).trans hv) q) hd
theorem SE.glob {x : PySem.Str} {pos : Pos} {v : V} {cv : Value} (e : nsIn S.K mainGlobals x = some (some cv)) (r : Rv S [] [] v cv) (hk : sc.names.lookup x = some .globalImplicit := by kernel_rfl) (hd : (x == ("__debug__" : PySem.Str)) = false := by kernel_rfl) : SE S n sc ns (.Name x pos) (cst v) := ⟨fun zz F R h q => by
 cases h
 exact name_glob F R hk e hd (q _ _ _ _ _ R (List.Subset.refl _) (List.prefix_refl _) (r.mono (List.nil_subset _) (List.nil_prefix)))⟩
theorem two_SE {l r : PySem.Expr} {op : Operator} {pos : Pos} {a b : DE} {f : V → V → St → R V} (ha : SE S n sc ns l a) (hb : SE S n sc ns r b)
 (hf : ∀ {A : Around} {E : Value → Shared → Prop} {Q : Value → Shared → Prop} {env h₀ m G D C ad ρ st s x y cx cy v st'}, Room n A → Fix S sc ns env h₀ → Rel S ns env h₀ m G D C ad ρ st s → Rv S G ad x cx → Rv S G ad y cy → f x y st = .ok v st' →
  (∀ s' G' D' ad' cv, Rel S ns env h₀ m G' D' C ad' ρ st' s' → G ⊆ G' → ad <+: ad' → Rv S G' ad' v cv → Q cv s') → wpAny (model S.prog S.w) A (binaryOp op cx cy) Q E s) :
 SE S n sc ns (.BinOp l op r pos) (fun ρ s => R.rec (fun x s => R.rec (fun y s => f x y s) .bad (b ρ s)) .bad (a ρ s)) := ⟨fun hA F R h q => by
 obtain ⟨x, s1, e1, h⟩ := R_ok h
 obtain ⟨y, s2, e2, h⟩ := R_ok h
 refine wpAny_BinOp (ha.go hA F R e1 fun s' G' D' ad' cx R1 g1 p1 rx => hb.go hA F R1 e2 fun s'' G'' D'' ad'' cy R2 g2 p2 ry => ?_)
 exact hf hA F R2 (rx.mono g2 p2) ry h fun s3 G3 D3 ad3 cv R3 g3 p3 rv => q _ _ _ _ _ R3 (List.Subset.trans g1 (List.Subset.trans g2 g3)) (p1.trans (p2.trans p3)) rv⟩
theorem addI_eq (i j : Int) : addI i j = i + j := by cases i <;> cases j <;> rfl
theorem mulI_eq (i j : Int) : mulI i j = i * j := by cases i <;> cases j <;> rfl
theorem subI_eq (i j : Int) : subI i j = i - j := by
 cases i with
 | ofNat m => cases j with
  | ofNat n =>
   show (Bool.rec (Int.sub (.ofNat m) (.ofNat n)) (.ofNat (Nat.sub m n)) (Nat.ble n m) : Int) = _
   cases h : Nat.ble n m with
   | false => rfl
   | true =>
    have : n ≤ m := Nat.le_of_ble_eq_true h
    show ((m - n : Nat) : Int) = (m : Int) - (n : Int)
    omega
  | negSucc n => rfl
 | negSucc m => cases j <;> rfl
theorem fmodI_eq (i j : Int) : fmodI i j = Int.fmod i j := by
 cases i with
 | ofNat m => cases j with
  | ofNat n => cases m with
   | zero => show Int.ofNat (Nat.mod 0 n) = 0; rw [show Nat.mod 0 n = 0 from Nat.zero_mod n]; rfl
   | succ m => rfl
  | negSucc n => rfl
 | negSucc m => cases j <;> rfl
theorem fdivI_eq (i j : Int) : fdivI i j = Int.fdiv i j := by
 cases i with
 | ofNat m => cases j with
  | ofNat n => cases m with
   | zero => show Int.ofNat (Nat.div 0 n) = 0; rw [show Nat.div 0 n = 0 from Nat.zero_div n]; rfl
   | succ m => rfl
  | negSucc n => rfl
 | negSucc m => cases j <;> rfl
theorem app_eq {α : Type} (a b : List α) : app a b = a ++ b := by
 induction a with
 | nil => rfl
 | cons x l ih => show x :: app l b = _; rw [ih]; rfl
theorem len_eq {α : Type} (a : List α) : len a = a.length := by
 induction a with
 | nil => rfl
 | cons x l ih => show Nat.succ (len l) = _; rw [ih]; rfl
end
end Mine
end
section
namespace Mine
open PySem PySem.W PySem.Calls PyProof.Rows
theorem onI_ok {α : Type} {v : V} {k : Nat} {f : Int → R α} {a : α} {s : St} (h : onI v (.bad k) f = .ok a s) : ∃ i, v = .int i ∧ f i = .ok a s := by
 cases v with
 | int i => exact ⟨i, rfl, h⟩
 | _ => exact absurd h (by intro h; cases h)
theorem bt_ok {α : Type} {b : Bool} {k : Nat} {X : R α} {a : α} {s : St} (h : (Bool.rec (R.bad k) X b : R α) = .ok a s) : b = true ∧ X = .ok a s := by
 cases b with
 | true => exact ⟨rfl, h⟩
 | false => cases h
theorem bf_ok {α : Type} {b : Bool} {k : Nat} {X : R α} {a : α} {s : St} (h : (Bool.rec X (R.bad k) b : R α) = .ok a s) : b = false ∧ X = .ok a s := by
 cases b with
 | false => exact ⟨rfl, h⟩
 | true => cases h
theorem ir_ok {α : Type} {j : Int} {k : Nat} {X : Nat → R α} {a : α} {s : St} (h : (Int.rec (fun n => X n) (fun zz => R.bad k) j : R α) = .ok a s) : ∃ n : Nat, j = (n : Int) ∧ X n = .ok a s := by
 cases j with
 | ofNat n => exact ⟨n, rfl, h⟩
 | negSucc n => cases h
theorem ol_ok {α β : Type} {o : OL β} {k : Nat} {X : β → R α} {a : α} {s : St} (h : (OL.rec (R.bad k) (fun x => X x) o : R α) = .ok a s) : ∃ x, o = .at x ∧ X x = .ok a s := by
 cases o with
 | no => cases h
 | «at» x => exact ⟨x, rfl, h⟩
theorem small_iff {i : Int} (h : small i = true) : i.natAbs < 2 ^ 64 := by
 cases i with
 | ofNat n => have : n ≤ 1000000000000000000 := Nat.le_of_ble_eq_true h; show n < 2 ^ 64; omega
 | negSucc n => have : n ≤ 1000000000000000000 := Nat.le_of_ble_eq_true h; show n + 1 < 2 ^ 64; omega
noncomputable section
variable {S : Stage} {n : Nat} {sc : Scope} {ns : List (Option PySem.Str)}
section
variable {env : PySem.Env} {h₀ : Heap} {m : PySem.Str → Option Value} {G D C : Led} {ad : List Addr} {ρ : Env} {st : St} {s : Shared}
theorem Rel.tup (R : Rel S ns env h₀ m G D C ad ρ st s) (F : Fix S sc ns env h₀) {a : Addr} {vs : List Value} {k : Nat} (h : Obs S G a (tupOf vs k)) : IsTup s.heap a vs.toArray := ⟨_, R.obs F h, rfl, k, rfl⟩
theorem Rel.lst (R : Rel S ns env h₀ m G D C ad ρ st s) (F : Fix S sc ns env h₀) {a : Addr} {vs : List Value} {k : Nat} (h : Obs S G a (lstOf vs k)) : s.heap.IsList a vs.toArray := ⟨_, R.obs F h, rfl, k, rfl⟩
end
def subV (x y : V) (s : St) : R V := onI x (.bad 7) fun i => onI y (.bad 7) fun j => .ok (.int (subI i j)) s
theorem SE.sub {l r : PySem.Expr} {pos : Pos} {a b : DE} (ha : SE S n sc ns l a) (hb : SE S n sc ns r b) : SE S n sc ns (.BinOp l .Sub r pos) (sub a b) :=
 two_SE (f := subV) ha hb fun zz zz R rx ry h q => by
  obtain ⟨i, rfl, h1x⟩ := onI_ok h
  obtain ⟨j, rfl, h2x⟩ := onI_ok h1x
  cases rx; cases ry; cases h2x
  exact PyProof.Rows.sub_int (q _ _ _ _ _ (R.toks _) (List.Subset.refl _) (List.prefix_refl _) (subI_eq i j ▸ .int _ _))
def mulV (x y : V) (s : St) : R V := onI x (.bad 7) fun i => onI y (.bad 7) fun j => Bool.rec (.bad 7) (.ok (.int (mulI i j)) s) (small j)
theorem SE.mul {l r : PySem.Expr} {pos : Pos} {a b : DE} (ha : SE S n sc ns l a) (hb : SE S n sc ns r b) : SE S n sc ns (.BinOp l .Mult r pos) (mul a b) :=
 two_SE (f := mulV) ha hb fun zz zz R rx ry h q => by
  obtain ⟨i, rfl, h1x⟩ := onI_ok h
  obtain ⟨j, rfl, h2x⟩ := onI_ok h1x
  obtain ⟨c, h3x⟩ := bt_ok h2x
  cases rx; cases ry; cases h3x
  have := small_iff c
  exact PyProof.Rows.mul_int (q _ _ _ _ _ (R.toks _) (List.Subset.refl _) (List.prefix_refl _) (mulI_eq i j ▸ .int _ _)) (IntMulOk.of_right (intBits_le_64 (by omega) (by omega)))
def modV (x y : V) (s : St) : R V := onI x (.bad 7) fun i => onI y (.bad 7) fun j => Int.rec (fun n => Bool.rec (.ok (.int (fmodI i j)) s) (.bad 7) (Nat.beq n (nat_lit 0))) (fun zz => .bad 7) j
theorem SE.mod {l r : PySem.Expr} {pos : Pos} {a b : DE} (ha : SE S n sc ns l a) (hb : SE S n sc ns r b) : SE S n sc ns (.BinOp l .Mod r pos) (mod a b) :=
 two_SE (f := modV) ha hb fun zz zz R rx ry h q => by
  obtain ⟨i, rfl, h1x⟩ := onI_ok h
  obtain ⟨j, rfl, h2x⟩ := onI_ok h1x
  obtain ⟨k, rfl, h3x⟩ := ir_ok h2x
  obtain ⟨c, h4x⟩ := bf_ok h3x
  cases rx; cases ry; cases h4x
  have : k ≠ 0 := Nat.ne_of_beq_eq_false c
  exact mod_int' (by omega) (q _ _ _ _ _ (R.toks _) (List.Subset.refl _) (List.prefix_refl _) (fmodI_eq i k ▸ .int _ _))
def fdivV (x y : V) (s : St) : R V := onI x (.bad 7) fun i => onI y (.bad 7) fun j => Int.rec (fun n => Bool.rec (.bad 7) (Bool.rec (.ok (.int (fdivI i j)) s) (.bad 7) (Nat.beq n (nat_lit 0))) (Nat.ble n (nat_lit 1000000000))) (fun zz => .bad 7) j
theorem SE.fdiv {l r : PySem.Expr} {pos : Pos} {a b : DE} (ha : SE S n sc ns l a) (hb : SE S n sc ns r b) : SE S n sc ns (.BinOp l .FloorDiv r pos) (fdiv a b) :=
 two_SE (f := fdivV) ha hb fun zz zz R rx ry h q => by
  obtain ⟨i, rfl, h1x⟩ := onI_ok h
  obtain ⟨j, rfl, h2x⟩ := onI_ok h1x
  obtain ⟨k, rfl, h3x⟩ := ir_ok h2x
  obtain ⟨c1, h4x⟩ := bt_ok h3x
  obtain ⟨c, h5x⟩ := bf_ok h4x
  cases rx; cases ry; cases h5x
  have : k ≠ 0 := Nat.ne_of_beq_eq_false c
  have : k ≤ 1000000000 := Nat.le_of_ble_eq_true c1
  exact floordiv_int (by omega) (q _ _ _ _ _ (R.toks _) (List.Subset.refl _) (List.prefix_refl _) (fdivI_eq i k ▸ .int _ _)) (.inl (PyProof.noPylong_small (by omega)))
theorem natI_ok {f : Nat → Nat → Nat} {top : Nat} {a b : V} {s s' : St} {v : V} (h : natI f top a b s = .ok v s') : ∃ m n : Nat, a = .int m ∧ b = .int n ∧ n ≤ top ∧ v = .int (f m n : Nat) ∧ s' = s := by
 obtain ⟨i, rfl, h1x⟩ := onI_ok h
 obtain ⟨j, rfl, h2x⟩ := onI_ok h1x
 obtain ⟨k, rfl, h3x⟩ := ir_ok h2x
 obtain ⟨l, rfl, h4x⟩ := ir_ok h3x
 obtain ⟨c, h5x⟩ := bt_ok h4x
 cases h5x
 exact ⟨k, l, rfl, rfl, Nat.le_of_ble_eq_true c, rfl, rfl⟩
def shlV (x y : V) (s : St) : R V := onI x (.bad 7) fun i => Bool.rec (.bad 7) (natI Nat.shiftLeft (nat_lit 64) x y s) (small i)
theorem SE.shl {l r : PySem.Expr} {pos : Pos} {a b : DE} (ha : SE S n sc ns l a) (hb : SE S n sc ns r b) : SE S n sc ns (.BinOp l .LShift r pos) (shl a b) :=
 two_SE (f := shlV) ha hb fun zz zz R rx ry h q => by
  obtain ⟨i, rfl, h1x⟩ := onI_ok h
  obtain ⟨c, h2x⟩ := bt_ok h1x
  obtain ⟨k, l, e, rfl, hl, rfl, rfl⟩ := natI_ok h2x
  cases e
  cases rx; cases ry
  have := small_iff c
  have hl : l ≤ 64 := hl
  refine lshift_int_small (by omega) (by omega) this (q _ _ _ _ _ (R.toks _) (List.Subset.refl _) (List.prefix_refl _) ?_)
  have e : ((k : Nat) : Int) * 2 ^ ((l : Nat) : Int).toNat = ((Nat.shiftLeft k l : Nat) : Int) := by
   show _ = ((k <<< l : Nat) : Int)
   rw [Nat.shiftLeft_eq]; simp
  rw [e]
  exact .int _ _
theorem SE.shr {l r : PySem.Expr} {pos : Pos} {a b : DE} (ha : SE S n sc ns l a) (hb : SE S n sc ns r b) : SE S n sc ns (.BinOp l .RShift r pos) (shr a b) :=
 two_SE (f := natI Nat.shiftRight 64) ha hb fun zz zz R rx ry h q => by
  obtain ⟨k, l, rfl, rfl, hl, rfl, rfl⟩ := natI_ok h
  cases rx; cases ry
  refine rshift_int (by omega) (q _ _ _ _ _ (R.toks _) (List.Subset.refl _) (List.prefix_refl _) ?_)
  have e : Int.fdiv ((k : Nat) : Int) (2 ^ ((l : Nat) : Int).toNat) = ((Nat.shiftRight k l : Nat) : Int) := by
   show _ = ((k >>> l : Nat) : Int)
   rw [Nat.shiftRight_eq_div_pow]
   have : (2 : Int) ^ ((l : Nat) : Int).toNat = ((2 ^ l : Nat) : Int) := by simp
   rw [this, ← fdivI_eq]; rfl
  rw [e]
  exact .int _ _
theorem SE.band {l r : PySem.Expr} {pos : Pos} {a b : DE} (ha : SE S n sc ns l a) (hb : SE S n sc ns r b) : SE S n sc ns (.BinOp l .BitAnd r pos) (band a b) :=
 two_SE (f := natI Nat.land bigN) ha hb fun zz zz R rx ry h q => by
  obtain ⟨k, l, rfl, rfl, hl, rfl, rfl⟩ := natI_ok h
  cases rx; cases ry
  refine PyProof.Rows.and_int (q _ _ _ _ _ (R.toks _) (List.Subset.refl _) (List.prefix_refl _) ?_)
  rw [bitAnd_pp (by omega) (by omega)]
  exact .int _ _
theorem bitOr_nat (k l : Nat) : Builtin.bitOr (k : Int) (l : Int) = ((Nat.lor k l : Nat) : Int) := by
 have e : ∀ z : Int, Builtin.bitNot (Builtin.bitNot z) = z := fun z => bitNot_bitNot z
 have h : ∀ k : Nat, ¬ 0 ≤ Builtin.bitNot (k : Int) := fun k => by unfold Builtin.bitNot; omega
 have hu : Builtin.bitOr (k : Int) (l : Int) = Builtin.bitNot (Builtin.bitAnd (Builtin.bitNot k) (Builtin.bitNot l)) := rfl
 rw [hu, bitAnd_nn (h k) (h l), e, e, e]
 rfl
theorem SE.bor {l r : PySem.Expr} {pos : Pos} {a b : DE} (ha : SE S n sc ns l a) (hb : SE S n sc ns r b) : SE S n sc ns (.BinOp l .BitOr r pos) (bor a b) :=
 two_SE (f := natI Nat.lor bigN) ha hb fun zz zz R rx ry h q => by
  obtain ⟨k, l, rfl, rfl, hl, rfl, rfl⟩ := natI_ok h
  cases rx; cases ry
  refine PyProof.Rows.or_int (q _ _ _ _ _ (R.toks _) (List.Subset.refl _) (List.prefix_refl _) ?_)
  rw [bitOr_nat]
  exact .int _ _
theorem SE.add {l r : PySem.Expr} {pos : Pos} {a b : DE} (ha : SE S n sc ns l a) (hb : SE S n sc ns r b) : SE S n sc ns (.BinOp l .Add r pos) (add a b) :=
 two_SE (f := addV) ha hb fun {A E Q env h₀ m G D C ad ρ st s x y cx cy v st'} hA F R rx ry h q => by
  cases x with
  | int i =>
   obtain ⟨j, rfl, h⟩ := onI_ok (v := y) (k := 7) (f := fun j => Mine.R.ok (V.int (addI i j)) st) h
   cases rx; cases ry; cases h
   exact PyProof.Rows.add_int (q _ _ _ _ _ (R.toks _) (List.Subset.refl _) (List.prefix_refl _) (addI_eq i j ▸ .int _ _))
  | tup x =>
   cases y with
   | tup y =>
    obtain ⟨c, g1⟩ := bt_ok h
    cases g1
    have c := Nat.le_of_ble_eq_true c
    rw [show Nat.add (len x) (len y) = len x + len y from rfl, len_eq, len_eq, show cap = 4096 from rfl] at c
    apply Rv.etup rx; intro vs a k o r
    apply Rv.etup ry; intro ws b j p t
    have l1 := r.length
    have l2 := t.length
    rw [app_eq] at q
    by_cases e1 : vs = []
    · subst e1
      cases r
      exact kde_addT0 R.fr R.nw (R.tup F o) (R.tup F p) rfl (by simp only [List.length_nil] at c ⊢; omega) (q _ _ _ _ _ R (List.Subset.refl _) (List.prefix_refl _) (.tup _ _ _ _ p t))
    · by_cases e2 : ws = []
      · subst e2
        cases t
        rw [List.append_nil] at q
        exact kde_addT1 R.fr R.nw (R.tup F o) (R.tup F p) e1 rfl (by simp only [List.length_nil] at c ⊢; omega) (q _ _ _ _ _ R (List.Subset.refl _) (List.prefix_refl _) (.tup _ _ _ _ o r))
      · refine kde_addT R.fr R.nw (R.tup F o) (R.tup F p) e1 e2 (by simp only; omega) rfl fun D' h' F' N' lt => ?_
        exact q _ _ _ _ _ (R.more _ F' N' lt) (List.subset_cons_self _ _) (List.prefix_refl _) (.tup _ _ _ 0 (.inl (.head _)) ((r.append t).mono (List.subset_cons_self _ _) (List.prefix_refl _)))
   | _ => exact absurd h (by intro h; cases h)
  | lst x =>
   cases y with
   | lst y =>
    obtain ⟨c, g1⟩ := bt_ok h
    cases g1
    have c := Nat.le_of_ble_eq_true c
    rw [show Nat.add (len x) (len y) = len x + len y from rfl, len_eq, len_eq, show cap = 4096 from rfl] at c
    apply Rv.elst rx; intro vs a k o r
    apply Rv.elst ry; intro ws b j p t
    have l1 := r.length
    have l2 := t.length
    rw [app_eq] at q
    refine add_arrays R.fr R.nw (R.lst F o) (R.lst F p) (fun h' F' N' => ?_) (by rw [sizeLine_eq]; simp only [List.size_toArray]; omega)
    exact q _ _ _ _ _ (R.more s.toks F' N' R.lt) (List.subset_cons_self _ _) (List.prefix_refl _) (.lst _ _ _ 0 (.inl (.head _)) ((r.append t).mono (List.subset_cons_self _ _) (List.prefix_refl _)))
   | _ => exact absurd h (by intro h; cases h)
  | bytes x =>
   cases y with
   | bytes y =>
    obtain ⟨c, g1⟩ := bt_ok h
    cases g1
    have c := Nat.le_of_ble_eq_true c
    rw [show Nat.add (len x) (len y) = len x + len y from rfl, len_eq, len_eq, show cap = 4096 from rfl] at c
    apply Rv.ebytes rx; intro bx t ex
    apply Rv.ebytes ry; intro by' u ey
    have l1 : bx.size = x.length := by rw [← ex]; simp
    have l2 : by'.size = y.length := by rw [← ey]; simp
    rw [app_eq] at q
    exact KBy.add_bytes (by omega) fun t' k => q _ _ _ _ _ (R.toks _) (List.Subset.refl _) (List.prefix_refl _) (.bytes _ _ _ (by simp [ex, ey]))
   | _ => exact absurd h (by intro h; cases h)
  | _ => exact absurd h (by intro h; cases h)
end
end Mine
end
section
namespace Mine
open PySem PySem.W PySem.Calls PyProof.Rows
noncomputable section
section
variable {S : Stage} {n : Nat} {sc : Scope} {ns : List (Option PySem.Str)}
theorem truthy_ok {v : V} {s s' : St} {b : Bool} (h : truthy v s = .ok b s') : s' = s ∧ ((v = .none ∧ b = false) ∨ v = .bool b ∨ ∃ i, v = .int i ∧ b = (i != 0)) := by
 cases v with
 | none => cases h; exact ⟨rfl, .inl ⟨rfl, rfl⟩⟩
 | bool c => cases h; exact ⟨rfl, .inr (.inl rfl)⟩
 | int i =>
  cases h
  refine ⟨rfl, .inr (.inr ⟨i, rfl, ?_⟩)⟩
  show (Bool.rec true false (eqI i (.ofNat 0)) : Bool) = _
  cases i with
  | ofNat k =>
   cases k with
   | zero => rfl
   | succ k => rfl
  | negSucc k => rfl
 | _ => exact absurd h (by intro h; cases h)
theorem truthy_Rv {A : Around} {E : Value → Shared → Prop} {Q : Bool → Shared → Prop} {G : Led} {ad : List Addr} {v : V} {c : Value} {st st' : St} {b : Bool} {s : Shared} (r : Rv S G ad v c) (h : truthy v st = .ok b st') (q : Q b s) : wpAny (model S.prog S.w) A (PySem.truthy c) Q E s := by
 obtain ⟨_, ⟨rfl, rfl⟩ | rfl | ⟨i, rfl, rfl⟩⟩ := truthy_ok h
 · cases r; exact PyProof.Rows.truthy_none q
 · cases r; exact wpAny_truthy_bool q
 · cases r; exact PyProof.Rows.truthy_int q
theorem ST.E {e : PySem.Expr} {d : DE} (hd : SE S n sc ns e d) (he : ∀ env whole, isTrue e env whole = (do let v ← whole; standAt e.pos; holding [v] (PySem.truthy v)) := by intro _ _; rfl) : ST S n sc ns e (tE d) := ⟨fun hA F R h q => by
 obtain ⟨v, s1, e1, h1⟩ := R_ok h
 have := (truthy_ok h1).1; subst this
 exact isTrue_plain (hd.go hA F R e1 fun s' G' D' ad' cv R1 g1 p1 r => truthy_Rv r h1 (q _ _ _ _ R1 g1 p1)) (he _ _)⟩
theorem ST.not {e : PySem.Expr} {pos : Pos} {d : DT} (hd : ST S n sc ns e d) : ST S n sc ns (.UnaryOp .Not e pos) (tnot d) := ⟨fun hA F R h q => by
 obtain ⟨v, s1, e1, h1⟩ := R_ok h
 have e2 : Bool.rec true false v = (!v) := by cases v <;> rfl
 cases h1
 rw [e2] at q
 exact isTrue_not (hd.go hA F R e1 fun s' G' D' ad' R1 g1 p1 => q _ _ _ _ R1 g1 p1)⟩
structure STs (S : Stage) (n : Nat) (sc : Scope) (ns : List (Option PySem.Str)) (op : BoolOp) (es : List PySem.Expr) (d : DT) : Prop where I ::
 go : ∀ {A : Around} {E : Value → Shared → Prop} {Q : Bool → Shared → Prop} {env h₀ m G D C ad ρ st s b st' whole pos}, Room n A → Fix S sc ns env h₀ → Rel S ns env h₀ m G D C ad ρ st s → d ρ st = .ok b st' →
  (∀ s' G' D' ad', Rel S ns env h₀ m G' D' C ad' ρ st' s' → G ⊆ G' → ad <+: ad' → Q b s') →
  wpAny (model S.prog S.w) A (isTrue (.BoolOp op es pos) env whole) Q E s
theorem STs.and1 {e : PySem.Expr} {d : DT} (hd : ST S n sc ns e d) : STs S n sc ns .And [e] d := ⟨fun hA F R h q =>
 isTrue_and (hd.go hA F R h fun s' G' D' ad' R1 g1 p1 => by
  rename_i b _ _ _
  cases b with
  | true => exact isTrue_and_nil (q _ _ _ _ R1 g1 p1)
  | false => exact q _ _ _ _ R1 g1 p1)⟩
theorem STs.or1 {e : PySem.Expr} {d : DT} (hd : ST S n sc ns e d) : STs S n sc ns .Or [e] d := ⟨fun hA F R h q =>
 isTrue_or (hd.go hA F R h fun s' G' D' ad' R1 g1 p1 => by
  rename_i b _ _ _
  cases b with
  | false => exact isTrue_or_nil (q _ _ _ _ R1 g1 p1)
  | true => exact q _ _ _ _ R1 g1 p1)⟩
theorem STs.and {e : PySem.Expr} {es : List PySem.Expr} {a b : DT} (ha : ST S n sc ns e a) (hb : STs S n sc ns .And es b) : STs S n sc ns .And (e :: es) (tand a b) := ⟨fun hA F R h q => by
 obtain ⟨v, s1, e1, h1⟩ := R_ok h
 refine isTrue_and (ha.go hA F R e1 fun s' G' D' ad' R1 g1 p1 => ?_)
 cases v with
 | true => exact hb.go hA F R1 h1 fun s'' G'' D'' ad'' R2 g2 p2 => q _ _ _ _ R2 (List.Subset.trans g1 g2) (p1.trans p2)
 | false => cases h1; exact q _ _ _ _ R1 g1 p1⟩
theorem STs.or {e : PySem.Expr} {es : List PySem.Expr} {a b : DT} (ha : ST S n sc ns e a) (hb : STs S n sc ns .Or es b) : STs S n sc ns .Or (e :: es) (tor a b) := ⟨fun hA F R h q => by
 obtain ⟨v, s1, e1, h1⟩ := R_ok h
 refine isTrue_or (ha.go hA F R e1 fun s' G' D' ad' R1 g1 p1 => ?_)
 cases v with
 | false => exact hb.go hA F R1 h1 fun s'' G'' D'' ad'' R2 g2 p2 => q _ _ _ _ R2 (List.Subset.trans g1 g2) (p1.trans p2)
 | true => cases h1; exact q _ _ _ _ R1 g1 p1⟩
theorem ST.ops {op : BoolOp} {es : List PySem.Expr} {pos : Pos} {d : DT} (h : STs S n sc ns op es d) : ST S n sc ns (.BoolOp op es pos) d := ⟨fun hA F R e q => h.go hA F R e q⟩
theorem SE.vand1 {e : PySem.Expr} {pos : Pos} {d : DE} (hd : SE S n sc ns e d) : SE S n sc ns (.BoolOp .And [e] pos) d := ⟨fun hA F R h q => BoolOp_one (hd.go hA F R h q)⟩
theorem SE.vor1 {e : PySem.Expr} {pos : Pos} {d : DE} (hd : SE S n sc ns e d) : SE S n sc ns (.BoolOp .Or [e] pos) d := ⟨fun hA F R h q => BoolOp_one (hd.go hA F R h q)⟩
theorem SE.vand {e f : PySem.Expr} {es : List PySem.Expr} {pos : Pos} {a b : DE} (ha : SE S n sc ns e a) (hb : SE S n sc ns (.BoolOp .And (f :: es) pos) b) : SE S n sc ns (.BoolOp .And (e :: f :: es) pos) (vand a b) := ⟨fun hA F R h q => by
 obtain ⟨v, s1, e1, h1⟩ := R_ok h
 obtain ⟨t, s2, e2, h2⟩ := R_ok h1
 have := (truthy_ok e2).1; subst this
 refine BoolOp_and (ha.go hA F R e1 fun s' G' D' ad' cv R1 g1 p1 r => truthy_Rv r e2 ?_)
 cases t with
 | true => exact hb.go hA F R1 h2 fun s'' G'' D'' ad'' cv' R2 g2 p2 r2 => q _ _ _ _ _ R2 (List.Subset.trans g1 g2) (p1.trans p2) r2
 | false => cases h2; exact q _ _ _ _ _ R1 g1 p1 r⟩
theorem SE.vor {e f : PySem.Expr} {es : List PySem.Expr} {pos : Pos} {a b : DE} (ha : SE S n sc ns e a) (hb : SE S n sc ns (.BoolOp .Or (f :: es) pos) b) : SE S n sc ns (.BoolOp .Or (e :: f :: es) pos) (vor a b) := ⟨fun hA F R h q => by
 obtain ⟨v, s1, e1, h1⟩ := R_ok h
 obtain ⟨t, s2, e2, h2⟩ := R_ok h1
 have := (truthy_ok e2).1; subst this
 refine BoolOp_or (ha.go hA F R e1 fun s' G' D' ad' cv R1 g1 p1 r => truthy_Rv r e2 ?_)
 cases t with
 | false => exact hb.go hA F R1 h2 fun s'' G'' D'' ad'' cv' R2 g2 p2 r2 => q _ _ _ _ _ R2 (List.Subset.trans g1 g2) (p1.trans p2) r2
 | true => cases h2; exact q _ _ _ _ _ R1 g1 p1 r⟩
theorem SE.not {e : PySem.Expr} {pos : Pos} {d : DE} (hd : SE S n sc ns e d) : SE S n sc ns (.UnaryOp .Not e pos) (vT (tnot (tE d))) := ⟨fun hA F R h q => by
 obtain ⟨v, s1, e1, h1⟩ := R_ok h
 obtain ⟨t, s2, e2, h2⟩ := R_ok e1
 obtain ⟨u, s3, e3, h3⟩ := R_ok e2
 have := (truthy_ok h3).1; subst this
 have e4 : Bool.rec true false t = (!t) := by cases t <;> rfl
 cases h1; cases h2
 rw [e4] at q
 exact UnaryOp_ (hd.go hA F R e3 fun s' G' D' ad' cv R1 g1 p1 r => not_of (truthy_Rv r h3 (q _ _ _ _ _ R1 g1 p1 (.bool _))))⟩
theorem SE.ife {t a b : PySem.Expr} {pos : Pos} {dt : DT} {da db : DE} (ht : ST S n sc ns t dt) (ha : SE S n sc ns a da) (hb : SE S n sc ns b db) : SE S n sc ns (.IfExp t a b pos) (ife dt da db) := ⟨fun hA F R h q => by
 obtain ⟨v, s1, e1, h1⟩ := R_ok h
 refine IfExp_ (ht.go hA F R e1 fun s' G' D' ad' R1 g1 p1 => ?_)
 cases v with
 | true => exact ha.go hA F R1 h1 fun s'' G'' D'' ad'' cv' R2 g2 p2 r2 => q _ _ _ _ _ R2 (List.Subset.trans g1 g2) (p1.trans p2) r2
 | false => exact hb.go hA F R1 h1 fun s'' G'' D'' ad'' cv' R2 g2 p2 r2 => q _ _ _ _ _ R2 (List.Subset.trans g1 g2) (p1.trans p2) r2⟩
structure SEs (S : Stage) (n : Nat) (sc : Scope) (ns : List (Option PySem.Str)) (es : List PySem.Expr) (ds : List DE) : Prop where I ::
 go : ∀ {A : Around} {E : Value → Shared → Prop} {Q : List Value → Shared → Prop} {env h₀ m G D C ad ρ st s vs st' pos}, Room n A → Fix S sc ns env h₀ → Rel S ns env h₀ m G D C ad ρ st s → evs ds ρ st = .ok vs st' →
  (∀ s' G' D' ad' cs, Rel S ns env h₀ m G' D' C ad' ρ st' s' → G ⊆ G' → ad <+: ad' → Rvs S G' ad' vs cs → Q cs s') →
  wpAny (model S.prog S.w) A (spliced (backTo pos (starEach es env))) Q E s
theorem SEs.nil : SEs S n sc ns [] [] := ⟨fun zz zz R h q => by
 cases h
 exact spliced_none (q _ _ _ _ _ R (List.Subset.refl _) (List.prefix_refl _) .nil)⟩
theorem SEs.cons {e : PySem.Expr} {es : List PySem.Expr} {d : DE} {ds : List DE} (hd : SE S n sc ns e d) (hs : SEs S n sc ns es ds) (he : ∀ env, starEach (e :: es) env = (false, eval e env) :: starEach es env := by intro _; rfl) : SEs S n sc ns (e :: es) (d :: ds) := ⟨fun hA F R h q => by
 obtain ⟨v, s1, e1, h1⟩ := R_ok h
 obtain ⟨vs, s2, e2, h2⟩ := R_ok h1
 cases h2
 exact spliced_more (hd.go hA F R e1 fun s' G' D' ad' cv R1 g1 p1 r1 => hs.go hA F R1 e2 fun s'' G'' D'' ad'' cs R2 g2 p2 r2 => q _ _ _ _ _ R2 (List.Subset.trans g1 g2) (p1.trans p2) (.cons (r1.mono g2 p2) r2)) (he _)⟩
theorem evs_length : ∀ {ds : List DE} {ρ : Env} {st st' : St} {vs : List V}, evs ds ρ st = .ok vs st' → vs.length = ds.length
 | [], _, _, _, _, h => by cases h; rfl
 | d :: ds, _, _, _, _, h => by
  obtain ⟨v, s1, e1, h1⟩ := R_ok h
  obtain ⟨vs, s2, e2, h2⟩ := R_ok h1
  cases h2
  simp [evs_length e2]
theorem SE.tup {es : List PySem.Expr} {k : Nat} {pos : Pos} {ds : List DE} (hs : SEs S n sc ns es ds) (hl : ds.length ≤ 1000 := by decide) : SE S n sc ns (.Tuple es k pos) (tupE ds) := ⟨fun hA F R h q => by
 obtain ⟨vs, s1, e1, h1⟩ := R_ok h
 cases h1
 have l1 := evs_length e1
 refine Tuple_ (hs.go hA F R e1 fun s' G' D' ad' cs R1 g1 p1 r => ?_)
 have l2 := r.length
 refine newTuple_N R1.fr R1.nw (fun h' F' N' => ?_) (by rw [sizeLine_eq]; omega)
 exact q _ _ _ _ _ (R1.more s'.toks F' N' R1.lt) (List.Subset.trans g1 (List.subset_cons_self _ _)) p1 (.tup _ _ _ 0 (.inl (.head _)) (r.mono (List.subset_cons_self _ _) (List.prefix_refl _)))⟩
theorem SE.lst {es : List PySem.Expr} {pos : Pos} {ds : List DE} (hs : SEs S n sc ns es ds) (hl : ds.length ≤ 1000 := by decide) : SE S n sc ns (.List es pos) (lstV ds) := ⟨fun hA F R h q => by
 obtain ⟨vs, s1, e1, h1⟩ := R_ok h
 cases h1
 have l1 := evs_length e1
 refine List_ (hs.go hA F R e1 fun s' G' D' ad' cs R1 g1 p1 r => ?_)
 have l2 := r.length
 refine newList_N R1.fr R1.nw (fun h' F' N' => ?_) (by rw [sizeLine_eq]; omega)
 exact q _ _ _ _ _ (R1.more s'.toks F' N' R1.lt) (List.Subset.trans g1 (List.subset_cons_self _ _)) p1 (.lst _ _ _ 0 (.inl (.head _)) (r.mono (List.subset_cons_self _ _) (List.prefix_refl _)))⟩
theorem new_ok {o : O} {s s' : St} {v : V} (h : new o s = .ok v s') : v = .ref s.n ∧ s' = ⟨setT s.t s.n o, s.n + 1⟩ ∧ (atT (setT s.t s.n o) s.n).isSome = true := by
 obtain ⟨t, k⟩ := s
 obtain ⟨x, e, h1⟩ := ol_ok (o := getT (setT t k o) k) h
 cases h1
 refine ⟨rfl, rfl, ?_⟩
 rw [getT_eq] at e
 show (atT (setT t k o) k).isSome = true
 cases q : atT (setT t k o) k with
 | none => rw [q] at e; cases e
 | some _ => rfl
variable {env : PySem.Env} {h₀ : Heap} {m : PySem.Str → Option Value} {G D C : Led} {ad : List Addr} {ρ : Env} {st : St} {s : Shared}
theorem Rel.push (R : Rel S ns env h₀ m G D C ad ρ st s) {a d : Addr} {o : O} {ob : Obj} {h' : Heap} {G' : Led} (t : Tok) (F' : Fr h₀ env.locals h' m) (N' : News h₀ env.locals h' (G' ++ ((d, ob) :: (D ++ C)))) (hG : G ⊆ G')
 (hd : ∀ p ∈ D ++ C, p.1 ≠ d) (hg : ∀ p ∈ G', p.1 ≠ d ∧ ∀ q ∈ D ++ C, p.1 ≠ q.1)
 (hn : (atT (setT st.t st.n o) st.n).isSome = true) (ho : ObRel S G' (ad ++ [a]) o a d ob) :
 Rel S ns env h₀ m G' (D ++ [(d, ob)]) C (ad ++ [a]) ρ ⟨setT st.t st.n o, st.n + 1⟩ { s with heap := h', toks := t } := by
 have hmem : ∀ p, p ∈ (D ++ [(d, ob)]) ++ C ↔ p = (d, ob) ∨ p ∈ D ++ C := fun p => by
  simp only [List.mem_append, List.mem_cons, List.not_mem_nil, or_false]
  constructor
  · rintro ((h | h) | h)
    · exact .inr (.inl h)
    · exact .inl h
    · exact .inr (.inr h)
  · rintro (h | h | h)
    · exact .inl (.inr h)
    · exact .inl (.inl h)
    · exact .inr h
 refine ⟨F', fun p hp => N' p ?_, fun p hp q hq => ?_, ?_, ⟨?_, ?_, ?_⟩, R.er.mono hG (List.prefix_append _ _), R.gens, R.drawn, R.os, R.cl⟩
 · rcases List.mem_append.mp hp with h | h
   · exact List.mem_append_left _ h
   · exact List.mem_append_right _ (List.mem_cons.mpr ((hmem p).mp h))
 · rcases (hmem q).mp hq with rfl | h
   · exact (hg p hp).1
   · exact (hg p hp).2 q h
 · have := R.nod
   rw [List.map_append, List.nodup_append] at this
   obtain ⟨n1, n2, n3⟩ := this
   rw [List.map_append, List.map_append, List.nodup_append, List.nodup_append]
   refine ⟨⟨n1, by simp, ?_⟩, n2, ?_⟩
   · intro x hx y hy
     obtain ⟨p, hp, rfl⟩ := List.mem_map.mp hx
     simp only [List.map_cons, List.map_nil, List.mem_singleton] at hy
     subst hy
     exact hd p (List.mem_append_left _ hp)
   · intro x hx y hy
     rcases List.mem_append.mp hx with hx | hx
     · exact n3 x hx y hy
     · simp only [List.map_cons, List.map_nil, List.mem_singleton] at hx
       subst hx
       obtain ⟨p, hp, rfl⟩ := List.mem_map.mp hy
       exact (hd p (List.mem_append_right _ hp)).symm
 · show st.n + 1 = _; rw [R.hp.1]; simp
 · rw [List.length_append, R.hp.2.1]; simp
 · intro i x e
   show ∃ a' d' ob', _
   have e' := atT_set o st.t st.n hn i
   have e : atT (setT st.t st.n o) i = some x := e
   rw [e'] at e
   by_cases hi : i = st.n
   · rw [if_pos hi] at e
     cases e
     subst hi
     refine ⟨a, d, ob, ?_, ?_, ho⟩
     · rw [List.getElem?_append_right (by rw [R.hp.2.1, R.hp.1]; exact Nat.le_refl _), R.hp.2.1, R.hp.1]; simp
     · rw [List.getElem?_append_right (by rw [R.hp.1]; exact Nat.le_refl _), R.hp.1]; simp
   · rw [if_neg hi] at e
     obtain ⟨a', d', ob', x1, x2, x3⟩ := R.hp.2.2 i x e
     refine ⟨a', d', ob', get_prefix x1 (List.prefix_append _ _), get_prefix' x2, x3.mono hG (List.prefix_append _ _)⟩
where
 get_prefix' {D : Led} {i : Nat} {p : Addr × Obj} {l : Led} (h : D[i]? = some p) : (D ++ l)[i]? = some p := by
  rw [List.getElem?_append_left (List.getElem?_eq_some_iff.mp h).1]; exact h
theorem SE.lstE {es : List PySem.Expr} {pos : Pos} {ds : List DE} (hs : SEs S n sc ns es ds) (hl : ds.length ≤ 1000 := by decide) : SE S n sc ns (.List es pos) (lstE ds) := ⟨fun hA F R h q => by
 obtain ⟨vs, s1, e1, h1⟩ := R_ok h
 obtain ⟨rfl, rfl, hn⟩ := new_ok h1
 have l1 := evs_length e1
 refine List_ (hs.go hA F R e1 fun s' G' D' ad' cs R1 g1 p1 r => ?_)
 have l2 := r.length
 refine newList_N R1.fr R1.nw (fun h' F' N' => ?_) (by rw [sizeLine_eq]; omega)
 have lt := R1.lt
 refine q _ _ _ _ _ (R1.push (o := .list vs) s'.toks F' (fun p hp => N' p ?_) (List.Subset.refl _) (fun p hp => Nat.ne_of_lt (lt p (List.mem_append_right _ hp))) (fun p hp => ⟨Nat.ne_of_lt (lt p (List.mem_append_left _ hp)), fun q hq => R1.gd p hp q hq⟩) hn
  (.list _ _ _ 0 (r.mono (List.Subset.refl _) (List.prefix_append _ _)))) g1 (p1.trans (List.prefix_append _ _)) (.ref _ _ ?_)
 · simp only [List.mem_append, List.mem_cons] at hp ⊢
   rcases hp with h | h | h | h
   · exact .inr (.inl h)
   · exact .inl h
   · exact .inr (.inr (.inl h))
   · exact .inr (.inr (.inr h))
 · rw [List.getElem?_append_right (by rw [R1.hp.2.1, R1.hp.1]; exact Nat.le_refl _), R1.hp.2.1, R1.hp.1]; simp⟩
theorem onO_ok {α : Type} {v : V} {s s' : St} {k : Nat} {fi : Nat → Env → R α} {fl : List V → R α} {fd : List (V × V) → R α} {a : α} (h : onO v s (.bad k) fi fl fd = .ok a s') :
 ∃ i, v = .ref i ∧ ((∃ c f, atT s.t i = some (.inst c f) ∧ fi c f = .ok a s') ∨ (∃ l, atT s.t i = some (.list l) ∧ fl l = .ok a s') ∨ (∃ l, atT s.t i = some (.dict l) ∧ fd l = .ok a s')) := by
 cases v with
 | ref i =>
  refine ⟨i, rfl, ?_⟩
  obtain ⟨t, k'⟩ := s
  obtain ⟨x, e, h1⟩ := ol_ok (o := getT t i) h
  rw [getT_eq] at e
  show (∃ c f, atT t i = _ ∧ _) ∨ _
  cases q : atT t i with
  | none => rw [q] at e; cases e
  | some o =>
   rw [q] at e
   cases e
   cases x with
   | inst c f => exact .inl ⟨c, f, rfl, h1⟩
   | list l => exact .inr (.inl ⟨l, rfl, h1⟩)
   | dict l => exact .inr (.inr ⟨l, rfl, h1⟩)
 | _ => exact absurd h (by intro h; cases h)
structure Cls (S : Stage) (c : Nat) : Prop where
 get : findIn S.K (.ref (S.cls c)) "__getattribute__" = some (some (.builtin "object.__getattribute__"))
 gat : findIn S.K (.ref (S.cls c)) "__getattr__" = some none
 dict : hasDictIn S.K (S.cls c) = true
 set : findIn S.K (.ref (S.cls c)) "__setattr__" = some (some (.builtin "object.__setattr__"))
 over : plainOver S.K (S.cls c) = true
 free : ∀ k x, S.an c k = some x → findIn S.K (.ref (S.cls c)) x = some none
theorem Cls.plain {c : Nat} (h : Cls S c) (x : PySem.Str) : plainGet S.K (S.cls c) x = true := by
 unfold plainGet
 rw [h.get, h.gat]; rfl
theorem Rv.handed {v : V} {c : Value} (r : Rv S G ad v c) : handedIn c = true := by cases r <;> rfl
theorem mem_iff {x : Nat} {l : List Nat} (h : mem x l = true) : x ∈ l := by
 induction l with
 | nil => cases h
 | cons y l ih =>
  have h : (Bool.rec (mem x l) true (Nat.beq x y) : Bool) = true := h
  cases q : Nat.beq x y with
  | true => rw [Nat.eq_of_beq_eq_true q]; exact .head _
  | false => rw [q] at h; exact .tail _ (ih h)
theorem Rel.inst (R : Rel S ns env h₀ m G D C ad ρ st s) (F : Fix S sc ns env h₀) {a d c : Nat} {es : List DictEntry} {k i : Nat} (h1 : Obs S G a (instObj (S.cls c) d)) (h2 : D[i]? = some (d, dictOf es k)) : InstAt s.heap a (instObj (S.cls c) d) (S.cls c) (some (dictOf es k)) :=
 ⟨R.obs F h1, rfl, rfl, R.nw.get (List.mem_append_right _ (List.mem_append_left _ (List.mem_of_getElem? h2)))⟩
theorem SE.att {e : PySem.Expr} {x : PySem.Str} {pos : Pos} {cs : List Nat} {k : Nat} {d : DE} (hd : SE S n sc ns e d) (hc : ∀ c ∈ cs, Cls S c ∧ S.an c k = some x)
 (he : ∀ env, eval (.Attribute e x pos) env = (do
  let o ← eval e env
  standAt pos.atName
  let r ← holding [o] (getAttr o x true)
  letTemporaryGo e o r
  pure r) := by intro _; with_unfolding_all rfl) : SE S n sc ns (.Attribute e x pos) (att cs k d) := ⟨fun hA F R h q => by
 obtain ⟨v, s1, e1, h1⟩ := R_ok h
 obtain ⟨i, rfl, ⟨c, f, ha, h2⟩ | ⟨l, _, h2⟩ | ⟨l, _, h2⟩⟩ := onO_ok h1
 · obtain ⟨hm, h3⟩ := bt_ok h2
   obtain ⟨h4, rfl⟩ := nthE_ok h3
   obtain ⟨K1, K2⟩ := hc c (mem_iff hm)
   refine Attribute_any_ (hd.go hA F R e1 fun s' G' D' ad' cv R1 g1 p1 r => ?_) (he _)
   apply Rv.eref r; intro a ea
   obtain ⟨a', d', ob, x1, x2, x3⟩ := R1.hp.2.2 i _ ha
   rw [ea] at x1; cases x1
   cases x3 with
   | inst _ _ _ _ es k' y1 y2 =>
    obtain ⟨x', cv, z1, z2, z3⟩ := y2.2 k _ h4
    rw [K2] at z1; cases z1
    refine get_own R1.fr F.kin (R1.inst F y1 x2) (K1.plain _) K1.dict (K1.free k x K2) rfl z2 z3.handed (q _ _ _ _ _ (R1.toks _) g1 p1 z3)
 · cases h2
 · cases h2⟩
end
end
end Mine
end
section
namespace Mine
open PySem PySem.W PySem.Calls PyProof.Rows
def Binds (S : Stage) (f : Addr) (args : Args) (cs : List Value) : Prop :=
 ∃ o fd, S.K.lookup f = some o ∧ o.data = .func fd ∧ cs.length = fd.params.args.length ∧ ∀ s : Shared, S.K.In s.heap → BindsTo s fd args ((fd.params.args.map (·.arg)).zip cs)
def Fn (S : Stage) (n : Nat) (f : Addr) (F : DF) : Prop :=
 ∀ {A : Around} {R : Result → Shared → Prop} {sc ns env h₀ m G D C ad ρ st s args l cs v st'}, Room n A → Fix S sc ns env h₀ → Rel S ns env h₀ m G D C ad ρ st s → Binds S f args cs → Rvs S G ad l cs → F l st = .ok v st' →
  (∀ s' G' D' ad' cv, Rel S ns env h₀ m G' D' C ad' ρ st' s' → G ⊆ G' → ad <+: ad' → Rv S G' ad' v cv → R (.ok (.ret cv)) s') →
  codeAny (model S.prog S.w) A (.call (.ref f) args) R s
noncomputable section
section
variable {S : Stage} {n : Nat} {sc : Scope} {ns : List (Option PySem.Str)}
theorem Room.deeper {A : Around} (h : Room (n + 1) A) (env : PySem.Env) : Room n (A.deeper env) :=
 ⟨h.hd, by show A.depth + 1 + 8 * n + 8 < _; have := h.dp; omega, by show A.units + 3 + 40 * n + 80 < _; have := h.un; omega⟩
theorem Room.depth {A : Around} (h : Room n A) : A.depth < recursionLimit := by have := h.dp; omega
theorem Room.less {A : Around} {k : Nat} (h : Room n A) (hk : k ≤ n) : Room k A := ⟨h.hd, by have := h.dp; omega, by have := h.un; omega⟩
theorem getE_uns : ∀ (m k : Nat), getE k (uns m) = none
 | 0, k => by cases k <;> rfl
 | m + 1, 0 => rfl
 | m + 1, k + 1 => getE_uns m k
theorem getE_env (l : List V) (m : Nat) : ∀ k v, getE k (Mine.env l m) = some v → l[k]? = some v := by
 induction l with
 | nil => intro k v h; rw [show Mine.env [] m = uns m from rfl, getE_uns] at h; cases h
 | cons x l ih =>
  intro k v h
  cases k with
  | zero => cases h; rfl
  | succ k => exact ih k v h
theorem Rvs.get {G : Led} {ad : List Addr} : ∀ {l : List V} {cs : List Value} {k : Nat} {v : V}, Rvs S G ad l cs → l[k]? = some v → ∃ c, cs[k]? = some c ∧ Rv S G ad v c := by
 intro l cs k v r
 revert k
 apply r.ind
 · intro k h; simp at h
 · intro _ _ _ _ a _ ih k h
   cases k with
   | zero => cases h; exact ⟨_, rfl, a⟩
   | succ k => exact ih h
structure Def (S : Stage) (f : Addr) (ns : List (Option PySem.Str)) (sc : Scope) (body : List Stmt) (fd : FuncData) : Prop where
 obj : ∃ o, S.K.lookup f = some o ∧ o.data = .func fd
 body : fd.body = .stmts body
 scope : fd.scope = sc
 glob : fd.globals = mainGlobals
 blt : fd.builtins = builtinsNs
 clos : fd.closure = []
 code : codeIn S.K fd.code fd.qualname = true
 kind : sc.kind = .function
 coro : sc.isCoroutine = false
 gen : sc.isGenerator = false
 names : fd.params.args.map (some ·.arg) <+: ns
 nodup : (fd.params.args.map (·.arg)).Nodup
 ninj : ∀ (i j : Nat) (x : PySem.Str), ns[i]? = some (some x) → ns[j]? = some (some x) → i = j
 nsok : ∀ x : PySem.Str, some x ∈ ns → (x == ("__debug__" : PySem.Str)) = false ∧ (x == ("__classdict__" : PySem.Str)) = false
 kinds : ∀ x ∈ fd.params.args.map (·.arg), sc.names.lookup x = some .local ∨ sc.names.lookup x = some .cell
 cells : ∀ x, sc.names.lookup x = some .cell → ∀ k, ((cellsFrom k sc.names []).lookup x).isSome = true
 cnd : ((cellsFrom 0 sc.names []).map (·.1)).Nodup
theorem lookup_zip {xs : List PySem.Str} {cs : List Value} {k : Nat} {x : PySem.Str} {c : Value} (h1 : xs[k]? = some x) (h2 : cs[k]? = some c) : (x, c) ∈ xs.zip cs := by
 have : (xs.zip cs)[k]? = some (x, c) := by simp [List.getElem?_zip_eq_some, h1, h2]
 exact List.mem_of_getElem? this
theorem bindL_mem (kd : PySem.Str → Option NameKind) : ∀ (bs : List (PySem.Str × Value)) (m : PySem.Str → Option Value), (bs.map (·.1)).Nodup →
 (∀ x c, (x, c) ∈ bs → kd x = some .local → bindL kd bs m x = some c) ∧ (∀ x, x ∉ bs.map (·.1) → bindL kd bs m x = m x)
 | [], m, _ => ⟨fun zz zz h => (nomatch h), fun zz zz => rfl⟩
 | (y, d) :: r, m, hn => by
  rw [List.map_cons, List.nodup_cons] at hn
  obtain ⟨i1, i2⟩ := bindL_mem kd r (if kd y = some .local then fun z => if z = y then some d else m z else m) hn.2
  refine ⟨fun x c h hk => ?_, fun x h => ?_⟩
  · rcases List.mem_cons.mp h with e | h
    · cases e
      show bindL kd r _ _ = _
      rw [i2 _ hn.1, if_pos hk]
      simp
    · exact i1 x c h hk
  · rw [List.map_cons, List.mem_cons, not_or] at h
    show bindL kd r _ x = _
    rw [i2 x h.2]
    split
    · simp [h.1]
    · rfl
theorem bindC_mem (kd : PySem.Str → Option NameKind) : ∀ (bs : List (PySem.Str × Value)) (m : PySem.Str → Option Value), (bs.map (·.1)).Nodup →
 (∀ x c, (x, c) ∈ bs → kd x ≠ some .local → bindC kd bs m x = some c) ∧ (∀ x, x ∉ bs.map (·.1) → bindC kd bs m x = m x)
 | [], m, _ => ⟨fun zz zz h => (nomatch h), fun zz zz => rfl⟩
 | (y, d) :: r, m, hn => by
  rw [List.map_cons, List.nodup_cons] at hn
  obtain ⟨i1, i2⟩ := bindC_mem kd r (if kd y = some .local then m else fun z => if z = y then some d else m z) hn.2
  refine ⟨fun x c h hk => ?_, fun x h => ?_⟩
  · rcases List.mem_cons.mp h with e | h
    · cases e
      show bindC kd r _ _ = _
      rw [i2 _ hn.1, if_neg hk]
      simp
    · exact i1 x c h hk
  · rw [List.map_cons, List.mem_cons, not_or] at h
    show bindC kd r _ x = _
    rw [i2 x h.2]
    split
    · rfl
    · simp [h.1]
theorem CellsAre.mem {cm : PySem.Str → Option Value} : ∀ {cs : List (PySem.Str × Addr)} {cells : Led} {x : PySem.Str} {c : Addr}, CellsAre cm cs cells → (x, c) ∈ cs → ∃ o, (c, o) ∈ cells ∧ o.data = .cell (cm x) := by
 intro cs cells x c r m
 induction r with
 | nil => cases m
 | cons h r ih =>
  rcases List.mem_cons.mp m with e | m
  · cases e; exact ⟨_, .head _, h⟩
  · obtain ⟨o, a, b⟩ := ih m
    exact ⟨o, .tail _ a, b⟩
theorem CellsAre.addrs {cm : PySem.Str → Option Value} : ∀ {cs : List (PySem.Str × Addr)} {cells : Led}, CellsAre cm cs cells → cells.map (·.1) = cs.map (·.2) := fun r => by
 induction r with
 | nil => rfl
 | cons _ r ih => simp [ih]
theorem fnD_ok {m : Nat} {b : DS} {l : List V} {st st' : St} {v : V} (h : fnD m b l st = .ok v st') : (∃ ρ, b (Mine.env l m) st = .next ρ st' ∧ v = .none) ∨ b (Mine.env l m) st = .ret v st' := by
 have h : (RS.rec (fun zz s => .ok .none s) (fun v s => .ok v s) (fun zz zz => .bad 45) .bad (b (Mine.env l m) st) : R V) = .ok v st' := h
 cases q : b (Mine.env l m) st with
 | next ρ s => rw [q] at h; cases h; exact .inl ⟨ρ, rfl, rfl⟩
 | ret w s => rw [q] at h; cases h; exact .inr rfl
 | cont ρ s => rw [q] at h; cases h
 | bad k => rw [q] at h; cases h
theorem callee {f : Addr} {body : List Stmt} {fd : FuncData} {d : DS} (X : Def S f ns sc body fd) (k : Nat) (hS : SS S n sc ns body d) {A : Around} {R : Result → Shared → Prop} {G D : Led} {ad : List Addr} {st st' : St} {s : Shared} {args : Args} {l : List V} {cs : List Value} {v : V}
 (hA : Room (n + 1) A) (K₁ : S.K.In s.heap) (nl : s.heap.NoLimit) (kin' : S.K.In (hideAll s.heap ((G ++ D).map (·.1)))) (top' : TopRead S.p S.loose S.mg S.mb (hideAll s.heap ((G ++ D).map (·.1)))) (sysm' : ∃ o, (hideAll s.heap ((G ++ D).map (·.1))).get? sysModules = some o)
 (nw : ∀ p ∈ G ++ D, s.heap.get? p.1 = some p.2) (gd : ∀ p ∈ G, ∀ q ∈ D, p.1 ≠ q.1) (nod : (D.map (·.1)).Nodup) (hp : HpRel S G D ad st) (hg : s.gens = S.gens) (hdr : s.drawn = S.drawn) (hos : s.os = S.os)
 (hb : Binds S f args cs) (rv : Rvs S G ad l cs) (he : fnD k d l st = .ok v st')
 (back : ∀ (env : PySem.Env) (v' : V) (cv : Value) (s' : Shared) (m' : PySem.Str → Option Value) (G' D' C' : Led) (ad' : List Addr), Rel S ns env (hideAll s.heap ((G ++ D).map (·.1))) m' G' D' C' ad' .nil st' s' →
  G ⊆ G' → ad <+: ad' → v' = v → Rv S G' ad' v' cv → R (.ok (.ret cv)) s') :
 codeAny (model S.prog S.w) A (.call (.ref f) args) R s := by
 obtain ⟨o', fd', ho', hdat', hlen, hbind⟩ := hb
 obtain ⟨o, ho, hdat⟩ := X.obj
 rw [ho] at ho'; cases ho'
 rw [hdat] at hdat'; cases hdat'
 have hcd : s.heap.CodeRec fd.code fd.qualname := codeRec_of K₁ X.code
 have hxs : ∀ y ∈ (fd.params.args.map (·.arg)).zip cs, y.1 ∈ fd.params.args.map (·.arg) := fun y hy => (List.of_mem_zip hy).1
 have hzip : ((fd.params.args.map (·.arg)).zip cs).map (·.1) = fd.params.args.map (·.arg) := by
  rw [List.map_fst_zip]; simp [hlen]
 have hnd : (((fd.params.args.map (·.arg)).zip cs).map (·.1)).Nodup := by
  rw [hzip]; exact X.nodup
 refine codeAny_call_function hA.depth (K₁ _ _ ho) hdat (by rw [X.scope]; exact X.coro) (by rw [X.scope]; exact X.gen) X.body hcd (hbind _ K₁ _ _ _ _ ?_)
 rw [X.scope, X.glob, X.clos, X.blt]
 refine wpAny_newFunctionEnv_cells X.kind (fun x hx => ?_) fun env' he' s' x => ?_
 · rcases X.kinds x.1 (hxs x hx) with h | h
   · exact .inl h
   · exact .inr ⟨h, X.cells _ h _⟩
 subst he'
 have e1 : (newEnv sc s.heap.objs.size mainGlobals (cellsFrom (s.heap.objs.size + 1) sc.names []) (fd.qualname ++ ".<locals>.") (some f) fd.code none builtinsNs).kindOf = fun y => sc.names.lookup y := rfl
 have hloc : (newEnv sc s.heap.objs.size mainGlobals (cellsFrom (s.heap.objs.size + 1) sc.names []) (fd.qualname ++ ".<locals>.") (some f) fd.code none builtinsNs).locals = s.heap.objs.size := rfl
 obtain ⟨h₁, tk, rfl, hk₁⟩ := x.done
 refine ⟨nl.keeps hk₁, codeAny_func ?_⟩
 have cnd : ((cellsFrom (s.heap.objs.size + 1) sc.names []).map (·.1)).Nodup := cellsFrom_names sc.names 0 (s.heap.objs.size + 1) [] [] rfl ▸ X.cnd
 obtain ⟨cells, NC, Y⟩ := Cl.news (h₀ := s.heap) (L := s.heap.objs.size) (Nat.le_refl _) (cs := cellsFrom (s.heap.objs.size + 1) sc.names []) (h := h₁) fun n c hm => ⟨x.cell n c (lookup_of_mem_nodup cnd hm), x.above n c hm⟩
 have F₂ : Fix S sc ns (newEnv sc s.heap.objs.size mainGlobals (cellsFrom (s.heap.objs.size + 1) sc.names []) (fd.qualname ++ ".<locals>.") (some f) fd.code none builtinsNs) (hideAll s.heap ((G ++ D).map (·.1))) := by
  refine ⟨rfl, X.kind, rfl, rfl, kin', top', X.nsok, X.ninj, fun x' y' c hx hy => ?_, fun x' hx => ?_, sysm'⟩
  exact name_of_addr x.apart (mem_of_lookup hx) (mem_of_lookup hy)
  exact Option.isSome_iff_exists.mp (X.cells x' hx _)
 have R₂ : Rel S ns (newEnv sc s.heap.objs.size mainGlobals (cellsFrom (s.heap.objs.size + 1) sc.names []) (fd.qualname ++ ".<locals>.") (some f) fd.code none builtinsNs) (hideAll s.heap ((G ++ D).map (·.1))) (bindL (fun y => sc.names.lookup y) ((fd.params.args.map (·.arg)).zip cs) fun zz => none) G D cells ad (Mine.env l k) st { s with heap := h₁, toks := tk } := by
  refine ⟨⟨x.toInCall.ns, fun b o e => hk₁ b o (of_hideAll _ e), Nat.le_of_eq (hideAll_size _ _)⟩, fun p hp => ?_, fun p hp q' hq => ?_, ?_, hp, ?_, hg, hdr, hos, fun x' c hc => by obtain ⟨o', m1, m2⟩ := Mine.CellsAre.mem Y (mem_of_lookup hc); exact ⟨o', _, m1, m2⟩⟩
  · have key : p ∈ G ++ D ∨ p ∈ cells := by
     simp only [List.mem_append] at hp ⊢
     rcases hp with h | h | h
     · exact .inl (.inl h)
     · exact .inl (.inr h)
     · exact .inr h
    rcases key with h | h
    · have := nw p h
      exact ⟨hk₁ _ _ this, Nat.ne_of_lt (Heap.lt_size this), hideAll_none _ (List.mem_map_of_mem h)⟩
    · refine ⟨(NC p h).1, (NC p h).2.1, ?_⟩
      cases q : (hideAll s.heap ((G ++ D).map (·.1))).get? p.1 with
      | none => rfl
      | some o => have := of_hideAll _ q; rw [(NC p h).2.2] at this; cases this
  · rcases List.mem_append.mp hq with h | h
    · exact gd p hp q' h
    · intro e
      have a1 := nw p (List.mem_append_left _ hp)
      have a2 := (NC q' h).2.2
      rw [← e, a1] at a2; cases a2
  · rw [List.map_append, List.nodup_append]
    refine ⟨nod, ?_, ?_⟩
    · rw [Mine.CellsAre.addrs Y]
      have := x.apart
      have : (cellsFrom (s.heap.objs.size + 1) sc.names []).Pairwise fun x y => x.2 ≠ y.2 := this
      exact List.pairwise_map.mpr this
    · intro a ha b hb e
      obtain ⟨p, hp, rfl⟩ := List.mem_map.mp ha
      obtain ⟨p', hp', rfl⟩ := List.mem_map.mp hb
      have a1 := nw p (List.mem_append_right _ hp)
      have a2 := (NC p' hp').2.2
      rw [← e, a1] at a2; cases a2
  · intro i v' x₀ hv' hx₀
    have h1 := getE_env l k i v' hv'
    obtain ⟨c, hc, rc⟩ := rv.get h1
    have hi : i < (fd.params.args.map (·.arg)).length := by
     rw [List.length_map, ← hlen]; exact (List.getElem?_eq_some_iff.mp hc).1
    obtain ⟨t, ht⟩ := X.names
    have hx : (fd.params.args.map (·.arg))[i]? = some (fd.params.args.map (·.arg))[i] := List.getElem?_eq_getElem hi
    have hm := lookup_zip hx hc
    have ex : x₀ = (fd.params.args.map (·.arg))[i] := by
     rw [← ht, List.getElem?_append_left (by rw [List.length_map] at hi ⊢; exact hi)] at hx₀
     rw [List.getElem?_map] at hx hx₀
     cases q : fd.params.args[i]? with
     | none => rw [q] at hx₀; cases hx₀
     | some a =>
      rw [q] at hx hx₀
      cases hx₀
      exact Option.some.inj hx
    subst ex
    refine ⟨c, ?_, rc⟩
    · rcases X.kinds _ (List.getElem_mem hi) with hl | hl
      · exact .inl ⟨hl, (bindL_mem _ _ _ hnd).1 _ _ hm hl⟩
      · refine .inr ⟨.inl hl, ?_⟩
        obtain ⟨c', hc'⟩ := Option.isSome_iff_exists.mp (X.cells _ hl (s.heap.objs.size + 1))
        obtain ⟨o', m1, m2⟩ := Mine.CellsAre.mem Y (mem_of_lookup hc')
        refine ⟨c', o', hc', m1, m2.trans (congrArg _ ((bindC_mem _ _ _ hnd).1 _ _ hm ?_))⟩
        intro hq
        have hq : sc.names.lookup _ = some NameKind.local := hq
        rw [hl] at hq; cases hq
 refine hS.go (hA.deeper _) F₂ R₂ (fun j hj => ?_) fun fl s' hp => ?_
 · rcases fnD_ok he with ⟨ρ', e, _⟩ | e <;> rw [e] at hj <;> cases hj
 · rcases fnD_ok he with ⟨ρ', e, rfl⟩ | e
   · rw [e] at hp
     obtain ⟨rfl, m', G', D', C', ad', R₃, g3, p3, _⟩ := hp
     exact back _ .none .none s' m' G' D' C' ad' R₃.noEnv g3 p3 rfl .none
   · rw [e] at hp
     obtain ⟨cv, m', G', D', C', ad', rfl, R₃, g3, p3, _, r3⟩ := hp
     exact back _ v cv s' m' G' D' C' ad' R₃ g3 p3 rfl r3
theorem Fn.of {f : Addr} {body : List Stmt} {fd : FuncData} {d : DS} (X : Def S f ns sc body fd) (k : Nat) (hS : SS S n sc ns body d) : Fn S (n + 1) f (fnD k d) := by
 intro A R sc₁ ns₁ env₁ h₀ m G D C ad ρ st s args l cs v st' hA F R₁ hb rv he q
 have K₁ := F.kin.keeps R₁.fr.keep
 have T₁ := F.top.keeps R₁.fr.keep
 let H := (G ++ D).map (·.1)
 have newH : ∀ p ∈ G ++ D, p ∈ G ++ (D ++ C) := fun p hp => by
  rcases List.mem_append.mp hp with h | h
  · exact List.mem_append_left _ h
  · exact List.mem_append_right _ (List.mem_append_left _ h)
 have nm : ∀ b o, h₀.get? b = some o → b ∉ H := fun b o e q => by
  obtain ⟨p, hp, rfl⟩ := List.mem_map.mp q
  rw [(R₁.nw p (newH p hp)).2.2] at e; cases e
 have stay : ∀ b o, h₀.get? b = some o → (hideAll s.heap H).get? b = some o := fun b o e => hideAll_get _ (R₁.fr.keep b o e) (nm b o e)
 obtain ⟨oL, es, ep, hL, hLd, hLk, hLf⟩ := R₁.fr.ns
 have nL : env₁.locals ∉ H := fun q => by
  obtain ⟨p, hp, e⟩ := List.mem_map.mp q
  exact (R₁.nw p (newH p hp)).2.1 e
 have hLg := hideAll_get H hL nL
 have nC : ∀ p ∈ C, (hideAll s.heap H).get? p.1 = some p.2 := fun p hp => by
  refine hideAll_get _ (R₁.nw p (List.mem_append_right _ (List.mem_append_right _ hp))).1 fun q => ?_
  obtain ⟨p', hp', e⟩ := List.mem_map.mp q
  rcases List.mem_append.mp hp' with h | h
  · exact R₁.gd p' h p (List.mem_append_right _ hp) e
  · have := R₁.nod
    rw [List.map_append, List.nodup_append] at this
    exact this.2.2 p'.1 (List.mem_map_of_mem h) p.1 (List.mem_map_of_mem hp) e
 have nod' := R₁.nod
 rw [List.map_append, List.nodup_append] at nod'
 refine callee X k hS hA K₁ T₁.nolimit (F.kin.keeps stay) (F.top.keeps stay) (let ⟨o, ho⟩ := F.sysm; ⟨o, stay _ _ ho⟩) (fun p hp => (R₁.nw p (newH p hp)).1) (fun p hp q hq => R₁.gd p hp q (List.mem_append_left _ hq)) nod'.1 R₁.hp R₁.gens R₁.drawn R₁.os hb rv he ?_
 intro env v' cv s' m' G' D' C' ad' R₃ g3 p3 ev r3
 subst ev
 refine q s' G' D' ad' cv ⟨⟨⟨oL, es, ep, R₃.fr.keep _ _ hLg, hLd, hLk, hLf⟩, fun b o e => R₃.fr.keep _ _ (stay b o e), R₁.fr.above⟩, fun p hp => ?_, fun p hp q' hq => ?_, ?_, R₃.hp, R₁.er.mono g3 p3, R₃.gens, R₃.drawn, R₃.os, R₁.cl⟩ g3 p3 r3
 · have key : p ∈ G' ++ (D' ++ C') ∨ p ∈ C := by
    simp only [List.mem_append] at hp ⊢
    rcases hp with h | h | h
    · exact .inl (.inl h)
    · exact .inl (.inr (.inl h))
    · exact .inr h
   rcases key with h | h
   · have y := R₃.nw p h
     refine ⟨y.1, fun e => ?_, ?_⟩
     · have := y.2.2; rw [e, hLg] at this; cases this
     · cases hq : h₀.get? p.1 with
       | none => rfl
       | some o => have := y.2.2; rw [stay _ _ hq] at this; cases this
   · have y := R₁.nw p (List.mem_append_right _ (List.mem_append_right _ h))
     exact ⟨R₃.fr.keep _ _ (nC p h), y.2⟩
 · rcases List.mem_append.mp hq with h | h
   · exact R₃.gd p hp q' (List.mem_append_left _ h)
   · intro e
     have y := (R₃.nw p (List.mem_append_left _ hp)).2.2
     rw [e, nC q' h] at y; cases y
 · have z := R₃.nod
   rw [List.map_append, List.nodup_append] at z
   have z1 := R₁.nod
   rw [List.map_append, List.nodup_append] at z1
   rw [List.map_append, List.nodup_append]
   refine ⟨z.1, z1.2.1, fun a ha b hb e => ?_⟩
   obtain ⟨p, hp, rfl⟩ := List.mem_map.mp ha
   obtain ⟨p', hp', rfl⟩ := List.mem_map.mp hb
   have y := (R₃.nw p (List.mem_append_right _ (List.mem_append_left _ hp))).2.2
   rw [e, nC p' hp'] at y; cases y
end
end
end Mine
end
section
namespace Mine
open PySem PySem.W PySem.Calls PyProof.Rows
noncomputable section
section
variable {S : Stage} {n : Nat} {sc : Scope} {ns : List (Option PySem.Str)}
theorem store_var {A : Around} {E : Value → Shared → Prop} {Q : Unit → Shared → Prop} {env : PySem.Env} {h₀ : Heap} {m : PySem.Str → Option Value} {G D C : Led} {ad : List Addr} {ρ : Env} {st : St} {s : Shared} {k : Nat} {x : PySem.Str} {v : V} {cv : Value}
 (F : Fix S sc ns env h₀) (R : Rel S ns env h₀ m G D C ad ρ st s) (e : ns[k]? = some (some x)) (hk : sc.names.lookup x = some .local ∨ sc.names.lookup x = some .cell) (r : Rv S G ad v cv)
 (q : ∀ s' m' C', Rel S ns env h₀ m' G D C' ad (setE k v ρ) st s' → C'.map (·.1) = C.map (·.1) → Q () s') : wpAny (model S.prog S.w) A (storeName env x cv) Q E s := by
 have hkind : env.scope.kind = .function := by rw [F.esc]; exact F.kind
 rcases hk with hk | hk
 · have hl : env.kindOf x = some .local := (kindOf_eq F x).trans hk
   refine wpAny_storeName_local hl R.fr.ns (fun h' hn hs => ?_) (by rw [hkind]; rfl)
   refine q _ _ C ⟨R.fr.set hn hs, R.nw.set hs, R.gd, R.nod, R.hp, fun i w y hi hy => ?_, R.gens, R.drawn, R.os, R.cl⟩ rfl
   rcases getE_set k v ρ i w hi with ⟨rfl, rfl⟩ | ⟨hne, hi⟩
   · rw [e] at hy; cases hy
     exact ⟨cv, .inl ⟨hl, if_pos rfl⟩, r⟩
   · obtain ⟨c', va, r'⟩ := R.er i w y hi hy
     refine ⟨c', ?_, r'⟩
     rcases va with ⟨a, b⟩ | a
     · exact .inl ⟨a, (if_neg fun (q : y = x) => hne (F.ninj i k y hy (by rw [q]; exact e))).trans b⟩
     · exact .inr a
 · have hl : env.kindOf x = some .cell := (kindOf_eq F x).trans hk
   obtain ⟨c, hc⟩ := F.cell x hk
   obtain ⟨o, v₀, hm, hd⟩ := R.cl x c hc
   have hget := R.nw.get (List.mem_append_right G (List.mem_append_right D hm))
   refine wpAny_storeName_cell hkind hl hc ⟨o, hget, hd⟩ fun h' ⟨o', ho', hd'⟩ hs => ?_
   let C' : Led := C.map fun p => if p.1 = c then (c, o') else p
   have eC : C'.map (·.1) = C.map (·.1) := by
    rw [List.map_map]
    refine List.map_congr_left fun p zz => ?_
    show (if p.1 = c then (c, o') else p).1 = p.1
    split
    · rename_i h; exact h.symm
    · rfl
   have mC : ∀ p ∈ C', (p = (c, o')) ∨ (p ∈ C ∧ p.1 ≠ c) := fun p hp => by
    obtain ⟨p', hp', rfl⟩ := List.mem_map.mp hp
    by_cases h : p'.1 = c
    · rw [if_pos h]; exact .inl rfl
    · rw [if_neg h]; exact .inr ⟨hp', h⟩
   have inC : (c, o') ∈ C' := List.mem_map.mpr ⟨(c, o), hm, if_pos rfl⟩
   have inC' : ∀ p ∈ C, p.1 ≠ c → p ∈ C' := fun p hp h => List.mem_map.mpr ⟨p, hp, if_neg h⟩
   have hcl : (c, o) ∈ G ++ (D ++ C) := List.mem_append_right G (List.mem_append_right D hm)
   have nc := R.nw _ hcl
   have other : ∀ p ∈ G ++ D, p.1 ≠ c := fun p hp q => by
    rcases List.mem_append.mp hp with h | h
    · exact R.gd p h (c, o) (List.mem_append_right _ hm) q
    · have := R.nod
      rw [List.map_append, List.nodup_append] at this
      exact this.2.2 p.1 (List.mem_map_of_mem h) c (List.mem_map.mpr ⟨(c, o), hm, rfl⟩) q
   refine q _ m C' ⟨⟨R.fr.ns.sameBut hs (Ne.symm nc.2.1), fun b ob eb => (hs.2 b (fun q => ?_)).trans (R.fr.keep b ob eb), R.fr.above⟩, fun p hp => ?_, fun p hp p' hp' => ?_, ?_, R.hp, fun i w y hi hy => ?_, R.gens, R.drawn, R.os, fun y c' hy => ?_⟩ eC
   · have := nc.2.2; rw [← q, eb] at this; cases this
   · have key : p ∈ G ++ D ∨ p ∈ C' := by
      simp only [List.mem_append] at hp ⊢
      rcases hp with h | h | h
      · exact .inl (.inl h)
      · exact .inl (.inr h)
      · exact .inr h
     rcases key with h | h
     · have hp0 : p ∈ G ++ (D ++ C) := by
        simp only [List.mem_append] at h ⊢
        rcases h with h | h
        · exact .inl h
        · exact .inr (.inl h)
       have y := R.nw p hp0
       exact ⟨(hs.2 _ (other p h)).trans y.1, y.2⟩
     · rcases mC p h with rfl | ⟨h, hne⟩
       · exact ⟨ho', nc.2⟩
       · have y := R.nw p (List.mem_append_right _ (List.mem_append_right _ h))
         exact ⟨(hs.2 _ hne).trans y.1, y.2⟩
   · rcases List.mem_append.mp hp' with h | h
     · exact R.gd p hp p' (List.mem_append_left _ h)
     · rcases mC p' h with rfl | ⟨h, _⟩
       · exact R.gd p hp (c, o) (List.mem_append_right _ hm)
       · exact R.gd p hp p' (List.mem_append_right _ h)
   · rw [List.map_append, eC, ← List.map_append]; exact R.nod
   · rcases getE_set k v ρ i w hi with ⟨rfl, rfl⟩ | ⟨hne, hi⟩
     · rw [e] at hy; cases hy
       exact ⟨cv, .inr ⟨.inl hl, c, o', hc, inC, hd'⟩, r⟩
     · obtain ⟨c₁, va, r'⟩ := R.er i w y hi hy
       refine ⟨c₁, ?_, r'⟩
       rcases va with a | ⟨a, c', o'', h1, h2, h3⟩
       · exact .inl a
       · refine .inr ⟨a, c', o'', h1, inC' _ h2 fun q => ?_, h3⟩
         have q : c' = c := q
         subst q
         have := F.cinj x y c' hc h1
         subst this
         exact hne (F.ninj i k x hy e)
   · obtain ⟨o₂, v₂, h1, h2⟩ := R.cl y c' hy
     by_cases h : c' = c
     · subst h; exact ⟨o', _, inC, hd'⟩
     · exact ⟨o₂, v₂, inC' _ h1 h, h2⟩
theorem S1.asg {x : PySem.Str} {p pos : Pos} {value : PySem.Expr} {k : Nat} {d : DE} (hd : SE S n sc ns value d) (e : ns[k]? = some (some x) := by kernel_rfl) (hk : sc.names.lookup x = some .local ∨ sc.names.lookup x = some .cell := by exact .inl (by kernel_rfl))
 (hs : ∀ env, swapsWith value (some (.Name x p)) pos.line env = pure false := by intro _; rfl) : S1 S n sc ns (.Assign [.Name x p] value pos) (asg k d) := ⟨fun hA F R hb q => by
 obtain ⟨v, s1, e1, eq⟩ := RS_ok hb
 refine wpAny_Assign_Name (hd.go hA F R e1 fun s' G' D' ad' cv R1 g1 p1 r => store_var F R1 e hk r fun s'' m' C' R2 hc => q _ _ ?_) (hs _)
 have eq : Mine.asg k d _ _ = _ := eq
 rw [eq]
 exact ⟨rfl, m', G', D', C', ad', R2, g1, p1, hc⟩⟩
theorem S1.ret {e : PySem.Expr} {pos : Pos} {d : DE} (hd : SE S n sc ns e d) : S1 S n sc ns (.Return (some e) pos) (retS d) := ⟨fun hA F R hb q => by
 obtain ⟨v, s1, e1, eq⟩ := RS_ok hb
 refine wpAny_Return_some (hd.go hA F R e1 fun s' G' D' ad' cv R1 g1 p1 r => q _ _ ?_)
 have eq : Mine.retS d _ _ = _ := eq
 rw [eq]
 exact ⟨cv, _, G', D', _, ad', rfl, R1.noEnv, g1, p1, rfl, r⟩⟩
theorem S1.retN {pos : Pos} : S1 S n sc ns (.Return .none pos) (retS (cst .none)) := ⟨fun zz F R zz q =>
 wpAny_Return_none (q _ _ ⟨.none, _, _, _, _, _, rfl, R.noEnv, List.Subset.refl _, List.prefix_refl _, rfl, .none⟩)⟩
theorem S1.cont {pos : Pos} : S1 S n sc ns (.Continue pos) contS := ⟨fun zz F R zz q =>
 wpAny_Continue (q _ _ ⟨rfl, _, _, _, _, _, R, List.Subset.refl _, List.prefix_refl _, rfl⟩)⟩
theorem S1.bad {t : Stmt} {k : Nat} : S1 S n sc ns t (badS k) := ⟨fun zz zz zz hb zz => absurd rfl (hb k)⟩
theorem SS.bad {t : List Stmt} {k : Nat} : SS S n sc ns t (badS k) := ⟨fun zz zz zz hb zz => absurd rfl (hb k)⟩
theorem S1.exq {e : PySem.Expr} {pos : Pos} {d : DE} (hd : SE S n sc ns e d) (hi : ∀ env : PySem.Env, env.scope.kind = .function → interactive env = false)
 (hs : ∀ env, swapsWith e none pos.line env = pure false := by intro _; rfl) : S1 S n sc ns (.Expr e pos) (exq d) := ⟨fun hA F R hb q => by
 obtain ⟨v, s1, e1, eq⟩ := RS_ok hb
 refine wpAny_Expr_any (hd.go hA F R e1 fun s' G' D' ad' cv R1 g1 p1 r => q _ _ ?_) (hi _ (by rw [F.esc]; exact F.kind)) (hs _)
 have eq : Mine.exq d _ _ = _ := eq
 rw [eq]
 exact ⟨rfl, _, G', D', _, ad', R1, g1, p1, rfl⟩⟩
theorem SPost.trans {env : PySem.Env} {h₀ : Heap} {G G' C C' : Led} {ad ad' : List Addr} {rs : RS} {fl : Flow} {s : Shared} (g : G ⊆ G') (p : ad <+: ad') (c : C'.map (·.1) = C.map (·.1)) (h : SPost S ns env h₀ G' C' ad' rs fl s) : SPost S ns env h₀ G C ad rs fl s := by
 cases rs with
 | next ρ st => obtain ⟨a, m', G1, D1, C1, ad1, b, g1, p1, c1⟩ := h; exact ⟨a, m', G1, D1, C1, ad1, b, List.Subset.trans g g1, p.trans p1, c1.trans c⟩
 | cont ρ st => obtain ⟨a, m', G1, D1, C1, ad1, b, g1, p1, c1⟩ := h; exact ⟨a, m', G1, D1, C1, ad1, b, List.Subset.trans g g1, p.trans p1, c1.trans c⟩
 | ret v st => obtain ⟨cv, m', G1, D1, C1, ad1, a, b, g1, p1, c1, r⟩ := h; exact ⟨cv, m', G1, D1, C1, ad1, a, b, List.Subset.trans g g1, p.trans p1, c1.trans c, r⟩
 | bad k => exact h
theorem S1.iff {t : PySem.Expr} {a b : List Stmt} {pos : Pos} {dt : DT} {da db : DS} (ht : ST S n sc ns t dt) (ha : SS S n sc ns a da) (hb' : SS S n sc ns b db) : S1 S n sc ns (.If t a b pos) (iff dt da db) := ⟨fun hA F R hb q => by
 obtain ⟨v, s1, e1, eq⟩ := RS_ok hb
 have eq : Mine.iff dt da db _ _ = _ := eq
 rw [eq] at q
 have hb2 : ∀ k, Mine.iff dt da db _ _ ≠ .bad k := hb
 rw [eq] at hb2
 refine wpAny_If (ht.go hA F R e1 fun s' G' D' ad' R1 g1 p1 => ?_)
 cases v with
 | true => exact ha.go hA F R1 hb2 fun fl s'' h => q _ _ (h.trans g1 p1 rfl)
 | false => exact hb'.go hA F R1 hb2 fun fl s'' h => q _ _ (h.trans g1 p1 rfl)⟩
theorem SS.nil : SS S n sc ns [] skip := ⟨fun zz F R zz q => wpAny_execs_nil (q _ _ ⟨rfl, _, _, _, _, _, R, List.Subset.refl _, List.prefix_refl _, rfl⟩)⟩
theorem SS.one {t : Stmt} {d : DS} (h : S1 S n sc ns t d) : SS S n sc ns [t] d := ⟨fun hA F R hb q =>
 wpAny_execs_cons (h.go hA F R hb fun fl s' hp => by
  cases fl with
  | next => exact wpAny_execs_nil (q _ _ hp)
  | brk => exact q _ _ hp
  | cont => exact q _ _ hp
  | ret v => exact q _ _ hp)⟩
theorem SS.cons {t : Stmt} {ts : List Stmt} {a b : DS} (ha : S1 S n sc ns t a) (hb' : SS S n sc ns ts b) : SS S n sc ns (t :: ts) (sq a b) := by
 refine ⟨?_⟩
 intro A E Q env h₀ m G D C ad ρ st s hA F R hb q
 have eq : sq a b ρ st = RS.rec (fun ρ s => b ρ s) (fun v s => .ret v s) (fun ρ s => .cont ρ s) .bad (a ρ st) := rfl
 rw [eq] at q hb
 refine wpAny_execs_cons (ha.go hA F R (fun k hk => hb k (by rw [hk])) fun fl s' hp => ?_)
 cases h : a ρ st with
 | next ρ' st' =>
  rw [h] at hp q hb
  obtain ⟨rfl, m', G', D', C', ad', R1, g1, p1, c1⟩ := hp
  exact hb'.go hA F R1 hb fun fl s'' h => q _ _ (h.trans g1 p1 c1)
 | cont ρ' st' =>
  rw [h] at hp q
  obtain ⟨rfl, m', G', D', C', ad', r1, r2, r3, r4⟩ := hp
  exact q _ _ ⟨rfl, m', G', D', C', ad', r1, r2, r3, r4⟩
 | ret v st' =>
  rw [h] at hp q
  obtain ⟨cv, m', G', D', C', ad', rfl, r1, r2, r3, r4, r5⟩ := hp
  exact q _ _ ⟨cv, m', G', D', C', ad', rfl, r1, r2, r3, r4, r5⟩
 | bad k => rw [h] at hp; exact hp.elim
theorem Upd.left {d : Addr} {o o' : Obj} {l l' : Led} : ∀ (G : Led), (∀ p ∈ G, p.1 ≠ d) → Upd d o o' l l' → Upd d o o' (G ++ l) (G ++ l')
 | [], _, u => u
 | p :: G, h, u => .tail (h p (.head _)) (Upd.left G (fun q hq => h q (.tail _ hq)) u)
theorem Upd.right {d : Addr} {o o' : Obj} {C : Led} (h : ∀ p ∈ C, p.1 ≠ d) : ∀ {l l' : Led}, Upd d o o' l l' → Upd d o o' (l ++ C) (l' ++ C) := fun u => by
 induction u with
 | head hr => exact .head fun p hp => (List.mem_append.mp hp).elim (hr p) (h p)
 | tail hp u ih => exact .tail hp ih
theorem Upd.at {d : Addr} {o o' : Obj} : ∀ {D : Led} {i : Nat}, (D.map (·.1)).Nodup → D[i]? = some (d, o) → Upd d o o' D (D.set i (d, o'))
 | [], i, _, h => by cases i <;> cases h
 | p :: D, 0, hn, h => by
  cases h
  rw [List.map_cons, List.nodup_cons] at hn
  exact .head fun q hq e => hn.1 (List.mem_map.mpr ⟨q, hq, e⟩)
 | p :: D, i + 1, hn, h => by
  rw [List.map_cons, List.nodup_cons] at hn
  refine .tail (fun e => hn.1 ?_) (Upd.at hn.2 h)
  rw [e]; exact List.mem_map.mpr ⟨_, List.mem_of_getElem? h, rfl⟩
section
variable {env : PySem.Env} {h₀ : Heap} {m : PySem.Str → Option Value} {G D C : Led} {ad : List Addr} {ρ : Env} {st : St} {s : Shared}
theorem Rel.updD (R : Rel S ns env h₀ m G D C ad ρ st s) {i : Nat} {d : Addr} {ob ob' : Obj} (h : D[i]? = some (d, ob)) : Upd d ob ob' (G ++ (D ++ C)) (G ++ (D.set i (d, ob') ++ C)) := by
 have := R.nod
 rw [List.map_append, List.nodup_append] at this
 have hm : (d, ob) ∈ D := List.mem_of_getElem? h
 refine Upd.left G (fun p hp => R.gd p hp (d, ob) (List.mem_append_left _ hm)) (Upd.right (fun p hp e => ?_) (Upd.at this.1 h))
 exact this.2.2 d (List.mem_map.mpr ⟨_, hm, rfl⟩) p.1 (List.mem_map_of_mem hp) e.symm
theorem Rel.put (R : Rel S ns env h₀ m G D C ad ρ st s) {i : Nat} {d a : Addr} {ob ob' : Obj} {o o₀ : O} {h' : Heap} (t : Tok) (h : D[i]? = some (d, ob)) (ha : ad[i]? = some a) (h0 : atT st.t i = some o₀) (F' : Fr h₀ env.locals h' m) (N' : News h₀ env.locals h' (G ++ (D.set i (d, ob') ++ C)))
 (ho : ObRel S G ad o a d ob') : Rel S ns env h₀ m G (D.set i (d, ob')) C ad ρ ⟨setT st.t i o, st.n⟩ { s with heap := h', toks := t } := by
 have em : (D.set i (d, ob')).map (·.1) = D.map (·.1) := by
  rw [List.map_set]
  have hi : i < (D.map (·.1)).length := by rw [List.length_map]; exact (List.getElem?_eq_some_iff.mp h).1
  have : (D.map (·.1))[i] = d := by rw [List.getElem_map, (List.getElem?_eq_some_iff.mp h).2]
  rw [← this]; exact List.set_getElem_self hi
 refine ⟨F', N', fun p hp q hq => ?_, by rw [List.map_append, em, ← List.map_append]; exact R.nod, ⟨by rw [List.length_set]; exact R.hp.1, by rw [List.length_set]; exact R.hp.2.1, fun j x e => ?_⟩, R.er, R.gens, R.drawn, R.os, R.cl⟩
 · rcases List.mem_append.mp hq with h1 | h1
   · rcases List.mem_or_eq_of_mem_set h1 with h1 | rfl
     · exact R.gd p hp q (List.mem_append_left _ h1)
     · exact R.gd p hp (d, ob) (List.mem_append_left _ (List.mem_of_getElem? h))
   · exact R.gd p hp q (List.mem_append_right _ h1)
 · have e : atT (setT st.t i o) j = some x := e
   rw [atT_set o st.t i (atT_self o o₀ st.t i h0)] at e
   by_cases hj : j = i
   · subst hj
     rw [if_pos rfl] at e; cases e
     exact ⟨a, d, ob', ha, by rw [List.getElem?_set_self (List.getElem?_eq_some_iff.mp h).1], ho⟩
   · rw [if_neg hj] at e
     obtain ⟨a', d', ob₁, x1, x2, x3⟩ := R.hp.2.2 j x e
     exact ⟨a', d', ob₁, x1, by rw [List.getElem?_set_ne (Ne.symm hj)]; exact x2, x3⟩
end
theorem isStr_key {e : DictEntry} {x y : PySem.Str} {t : Tok} (h : e.key = .str x t) : e.key.isStr y = (x == y) := by rw [h]; rfl
theorem keys_no {c : Nat} {x : PySem.Str} : ∀ {ks : List Nat} {es : List DictEntry}, All2 (KeyAt S c) ks es → (∀ k ∈ ks, S.an c k ≠ some x) → es.find? (·.key.isStr x) = none ∧ es.any (·.key.isStr x) = false ∧ es.any (·.refKey) = false := by
 intro ks es r
 induction r with
 | nil => exact fun zz => ⟨rfl, rfl, rfl⟩
 | cons p r ih =>
  intro h
  obtain ⟨y, t, a, b, _⟩ := p
  obtain ⟨i1, i2, i3⟩ := ih fun k hk => h k (.tail _ hk)
  have hne : (y == x) = false := by
   cases q : (y == x) with
   | false => rfl
   | true => exact absurd (by rw [a, eq_of_beq q]) (h _ (.head _))
  refine ⟨?_, ?_, ?_⟩
  · rw [List.find?_cons, isStr_key b, hne]; exact i1
  · rw [List.any_cons, isStr_key b, hne]; exact i2
  · rw [List.any_cons, i3]
    unfold DictEntry.refKey; rw [b]; rfl
theorem keys_ref {c : Nat} : ∀ {ks : List Nat} {es : List DictEntry}, All2 (KeyAt S c) ks es → es.any (·.refKey) = false := fun r => by
 induction r with
 | nil => rfl
 | cons p r ih =>
  obtain ⟨y, t, a, b, _⟩ := p
  rw [List.any_cons, ih]
  unfold DictEntry.refKey; rw [b]; rfl
theorem getL_some {c : Nat} {ks : List Nat} {es : List DictEntry} (h : All2 (KeyAt S c) ks es) (x : PySem.Str) : (getL x es).isSome = true := by
 unfold getL
 split
 · rfl
 · rw [keys_ref h]; rfl
theorem getL_none {c : Nat} {ks : List Nat} {es : List DictEntry} {x : PySem.Str} (h : All2 (KeyAt S c) ks es) (hx : ∀ k ∈ ks, S.an c k ≠ some x) : getL x es = some none := by
 obtain ⟨a, _, b⟩ := keys_no h hx
 unfold getL
 rw [a, b]; rfl
theorem putL_keys {c k : Nat} {x : PySem.Str} {t : Tok} {v : Value} (hx : S.an c k = some x) : ∀ {ks : List Nat} {es : List DictEntry}, All2 (KeyAt S c) ks es → ks.Nodup →
 ∃ ks', ks'.Nodup ∧ All2 (KeyAt S c) ks' (putL x (PyData.keyHash S.w.params x) (.str x t) v es) ∧ ∀ j ∈ ks', j ∈ ks ∨ j = k := by
 intro ks es r
 induction r with
 | nil => exact fun zz => ⟨[k], by simp, .cons ⟨x, t, hx, rfl, rfl⟩ .nil, fun j hj => .inr (by simpa using hj)⟩
 | @cons k₁ e ks es p r ih =>
  intro hn
  obtain ⟨y, u, a, b, c'⟩ := p
  rw [List.nodup_cons] at hn
  unfold putL
  rw [isStr_key b]
  cases q : (y == x) with
  | true => exact ⟨k₁ :: ks, by rw [List.nodup_cons]; exact hn, .cons ⟨y, u, a, b, c'⟩ r, fun j hj => .inl hj⟩
  | false =>
   obtain ⟨ks', h1, h2, h3⟩ := ih hn.2
   refine ⟨k₁ :: ks', ?_, .cons ⟨y, u, a, b, c'⟩ h2, fun j hj => ?_⟩
   · rw [List.nodup_cons]
     refine ⟨fun hm => ?_, h1⟩
     rcases h3 _ hm with h | rfl
     · exact hn.1 h
     · rw [a] at hx; cases hx; simp at q
   · rcases List.mem_cons.mp hj with rfl | hj
     · exact .inl (.head _)
     · exact (h3 j hj).imp (.tail _) id
theorem putL_get {c : Nat} {x : PySem.Str} {h : Int} {t : Tok} {v : Value} (y : PySem.Str) : ∀ {ks : List Nat} {es : List DictEntry}, All2 (KeyAt S c) ks es → (putL x h (.str x t) v es).find? (·.key.isStr y) = if x = y then (putL x h (.str x t) v es).find? (·.key.isStr x) else es.find? (·.key.isStr y)
 | _, _, .nil => by
  by_cases q : x = y
  · rw [if_pos q, q]
  · rw [if_neg q]
    show List.find? _ [_] = _
    rw [List.find?_cons]
    have : (Value.str x t).isStr y = false := by
     show (x == y) = false
     simpa using q
    simp only [this]
 | _, _, .cons (b := e) (m := es) ⟨z, u, a, b, c'⟩ r => by
  by_cases q : x = y
  · rw [if_pos q, q]
  · rw [if_neg q]
    have ih := putL_get (x := x) (h := h) (t := t) (v := v) y r
    rw [if_neg q] at ih
    unfold putL
    rw [isStr_key b]
    cases w : (z == x) with
    | true =>
     have := eq_of_beq w
     subst this
     have hz : e.key.isStr y = false := by rw [isStr_key b]; simpa using q
     simp only [if_true, List.find?_cons, hz]
    | false =>
     simp only [Bool.false_eq_true, if_false, List.find?_cons, ih]
theorem putL_self {c : Nat} {x : PySem.Str} {h : Int} {t : Tok} {v : Value} : ∀ {ks : List Nat} {es : List DictEntry}, All2 (KeyAt S c) ks es → ∃ e, (putL x h (.str x t) v es).find? (·.key.isStr x) = some e ∧ e.val = v
 | _, _, .nil => ⟨⟨h, .str x t, v⟩, by
  show List.find? _ [_] = _
  rw [List.find?_cons]
  have : (Value.str x t).isStr x = true := by show (x == x) = true; simp
  simp only [this], rfl⟩
 | _, _, .cons (b := e) (m := es) ⟨z, u, a, b, c'⟩ r => by
  unfold putL
  rw [isStr_key b]
  cases w : (z == x) with
  | true =>
   refine ⟨_, by simp only [if_true, List.find?_cons]; rw [isStr_key b, w], rfl⟩
  | false =>
   obtain ⟨e', h1, h2⟩ := putL_self (c := c) (x := x) (h := h) (t := t) (v := v) r
   refine ⟨e', ?_, h2⟩
   simp only [Bool.false_eq_true, if_false, List.find?_cons]
   rw [isStr_key b, w]; exact h1
theorem nodup_lt : ∀ (n : Nat) (ks : List Nat), ks.Nodup → (∀ k ∈ ks, k < n) → ks.length ≤ n
 | 0, [], _, _ => Nat.le_refl _
 | 0, k :: _, _, h => absurd (h k (.head _)) (Nat.not_lt_zero _)
 | n + 1, ks, hn, h => by
  by_cases q : n ∈ ks
  · have h1 : (ks.erase n).length = ks.length - 1 := List.length_erase_of_mem q
    have h2 := nodup_lt n (ks.erase n) (hn.erase n) fun k hk => by
     have a := h k (List.mem_of_mem_erase hk)
     have : k ≠ n := fun e => by
      subst e
      exact (List.Nodup.not_mem_erase hn) hk
     omega
    have : 0 < ks.length := List.length_pos_of_mem q
    omega
  · have h2 := nodup_lt n ks hn fun k hk => by
     have a := h k hk
     have : k ≠ n := fun e => q (e ▸ hk)
     omega
    omega
theorem keyAt_lt {c : Nat} : ∀ {ks : List Nat} {es : List DictEntry}, All2 (KeyAt S c) ks es → ∀ k ∈ ks, k < 64 := fun r => by
 induction r with
 | nil => exact fun zz h => nomatch h
 | cons p r ih =>
  intro k h
  obtain ⟨x, t, a, _⟩ := p
  rcases List.mem_cons.mp h with rfl | h
  · exact S.anLt _ _ _ a
  · exact ih k h
theorem AtRel.put {G : Led} {ad : List Addr} {c k : Nat} {f : Env} {es : List DictEntry} {x : PySem.Str} {v : V} {cv : Value} {t : Tok} (h : AtRel S G ad c f es) (hx : S.an c k = some x) (r : Rv S G ad v cv) :
 AtRel S G ad c (setE k v f) (putL x (PyData.keyHash S.w.params x) (.str x t) cv es) := by
 obtain ⟨⟨ks, hn, ha⟩, hv⟩ := h
 obtain ⟨ks', h1, h2, _⟩ := putL_keys (t := t) (v := cv) hx ha hn
 refine ⟨⟨ks', h1, h2⟩, fun j w e => ?_⟩
 rcases getE_set k v f j w e with ⟨rfl, rfl⟩ | ⟨hne, e⟩
 · obtain ⟨e', q1, q2⟩ := putL_self (x := x) (h := PyData.keyHash S.w.params x) (t := t) (v := cv) ha
   refine ⟨x, cv, hx, ?_, r⟩
   unfold getL
   rw [q1, ← q2]
 · obtain ⟨y, cw, z1, z2, z3⟩ := hv j w e
   refine ⟨y, cw, z1, ?_, z3⟩
   have hxy : x ≠ y := fun q => hne (S.anInj c j k x (q ▸ z1) hx)
   unfold getL at z2 ⊢
   rw [putL_get y ha, if_neg hxy]
   split
   · rename_i q; rw [q] at z2; exact z2
   · rename_i q; rw [q] at z2; dsimp only at z2; split at z2 <;> simp at z2
theorem setA_ok {cs : List Nat} {k : Nat} {v x : V} {st : St} {f : St → RS} (h : ∀ j, setA cs k v x st f ≠ .bad j) : ∃ i c fs, v = .ref i ∧ atT st.t i = some (.inst c fs) ∧ c ∈ cs ∧ setA cs k v x st f = f ⟨setT st.t i (.inst c (setE k x fs)), st.n⟩ := by
 cases v with
 | ref i =>
  obtain ⟨t, kk⟩ := st
  have e : setA cs k (.ref i) x ⟨t, kk⟩ f = OL.rec (.bad 40) (fun o => O.rec (fun c fs => Bool.rec (.bad 40) (f (put (.ref i) (.inst c (setE k x fs)) ⟨t, kk⟩)) (mem c cs)) (fun zz => .bad 40) (fun zz => .bad 40) o) (getT t i) := rfl
  rw [e, getT_eq] at h ⊢
  show ∃ i' c fs, _ ∧ atT t i' = _ ∧ _
  cases q : atT t i with
  | none => rw [q] at h; exact absurd rfl (h 40)
  | some o =>
   rw [q] at h
   cases o with
   | inst c fs =>
    cases w : mem c cs with
    | false =>
     have h : ∀ j, (Bool.rec (.bad 40) (f (Mine.put (.ref i) (.inst c (setE k x fs)) ⟨t, kk⟩)) (mem c cs) : RS) ≠ .bad j := h
     rw [w] at h; exact absurd rfl (h 40)
    | true =>
     refine ⟨i, c, fs, rfl, q, mem_iff w, ?_⟩
     show (Bool.rec (.bad 40) (f (Mine.put (.ref i) (.inst c (setE k x fs)) ⟨t, kk⟩)) (mem c cs) : RS) = _
     rw [w]; rfl
   | list l => exact absurd rfl (h 40)
   | dict l => exact absurd rfl (h 40)
 | _ => exact absurd rfl (h 40)
theorem set_attr {A : Around} {E : Value → Shared → Prop} {Q : Unit → Shared → Prop} {env : PySem.Env} {h₀ : Heap} {m : PySem.Str → Option Value} {G D C : Led} {ad : List Addr} {ρ : Env} {st : St} {s : Shared} {cs : List Nat} {k : Nat} {x : PySem.Str} {v w : V} {cv cw : Value} {f : St → RS}
 (hc : ∀ c ∈ cs, Cls S c ∧ S.an c k = some x) (F : Fix S sc ns env h₀) (R : Rel S ns env h₀ m G D C ad ρ st s) (rv : Rv S G ad v cv) (rw' : Rv S G ad w cw) (h : ∀ j, setA cs k v w st f ≠ .bad j)
 (q : ∀ s' D' st', setA cs k v w st f = f st' → Rel S ns env h₀ m G D' C ad ρ st' s' → Q () s') : wpAny (model S.prog S.w) A (setAttr cv x cw) Q E s := by
 obtain ⟨i, c, fs, rfl, ha, hm, eq⟩ := setA_ok h
 obtain ⟨K1, K2⟩ := hc c hm
 apply Rv.eref rv; intro a ea
 obtain ⟨a', d, ob, x1, x2, x3⟩ := R.hp.2.2 i _ ha
 rw [ea] at x1; cases x1
 cases x3 with
 | inst _ _ _ _ es nn y1 y2 =>
  have y3 := y2.put (t := s.toks + 1) K2 rw'
  obtain ⟨⟨ks, hn, ha2⟩, _⟩ := y2
  obtain ⟨ks', hn', ha3⟩ := y3.1
  refine set_dict R.fr F.kin R.nw (R.inst F y1 x2) rfl K1.set K1.over (by unfold takerIn; rw [K1.free k x K2]; rfl) K1.dict (getL_some ha2 x) rfl (R.updD x2) (by have := nodup_lt 64 ks' hn' (keyAt_lt ha3); rw [← ha3.length]; omega) fun h' F' N' => ?_
  exact q _ _ _ eq (R.put _ x2 ea ha F' N' (.inst _ _ _ _ _ _ y1 y3))
theorem S1.seta {o value : PySem.Expr} {x : PySem.Str} {p pos : Pos} {cs : List Nat} {k : Nat} {d dv : DE} (hd : SE S n sc ns o d) (hv : SE S n sc ns value dv) (hc : ∀ c ∈ cs, Cls S c ∧ S.an c k = some x)
 (hs : ∀ env, swapsWith value (some (.Attribute o x p)) pos.line env = pure false := by intro _; rfl) : S1 S n sc ns (.Assign [.Attribute o x p] value pos) (seta cs k d dv) := ⟨fun hA F R hb q => by
 obtain ⟨v, s1, e1, eq1⟩ := RS_ok hb
 have eq1 : Mine.seta cs k d dv _ _ = _ := eq1
 rw [eq1] at q
 have hb2 : ∀ k', Mine.seta cs k d dv _ _ ≠ .bad k' := hb
 rw [eq1] at hb2
 obtain ⟨w, s2, e2, eq2⟩ := RS_ok hb2
 rw [eq2] at q hb2
 refine plainObj_wpAny_Assign_Attribute (hv.go hA F R e1 fun s' G' D' ad' cv R1 g1 p1 r1 => hd.go hA F R1 e2 fun s'' G'' D'' ad'' cw R2 g2 p2 r2 => ?_) (hs _)
 refine set_attr hc F R2 r2 (r1.mono g2 p2) hb2 fun s3 D3 st3 e3 R3 => q _ _ ?_
 rw [e3]
 exact ⟨rfl, _, _, _, _, _, R3, List.Subset.trans g1 g2, p1.trans p2, rfl⟩⟩
end
end
end Mine
end
section
namespace Mine
open PySem PySem.W PySem.Calls PyProof.Rows
theorem Fn.up {S : Stage} {k n : Nat} {f : Addr} {F : DF} (h : Fn S k f F) (hk : k ≤ n) : Fn S n f F := fun hA X R b r e q => h (hA.less hk) X R b r e q
structure Fp (S : Stage) (n : Nat) (f : Addr) (F : DF) (np : Nat) : Prop where
 keep : keepIn S.K (.ref f) = true
 fn : Fn S n f F
 binds : ∀ cs : List Value, cs.length = np → Binds S f ⟨cs, []⟩ cs
theorem Fp.up {S : Stage} {k n np : Nat} {f : Addr} {F : DF} (h : Fp S k f F np) (hk : k ≤ n) : Fp S n f F np := ⟨h.keep, Fn.up h.fn hk, h.binds⟩
noncomputable section
section
variable {S : Stage} {n : Nat} {sc : Scope} {ns : List (Option PySem.Str)}
theorem evalArgs_some {M : Model} {A : Around} {E : Value → Shared → Prop} {s : Shared} {f : Value} {args : List (Bool × Sem Value)} {Q : Args → Shared → Prop} (hp : args.any (·.1) = false)
 (h : wpAny M A (spliced args) (fun vs s' => Q ⟨vs, []⟩ s') E s) : wpAny M A (evalArgs f true args []) Q E s := by
 cases args with
 | nil =>
  unfold evalArgs
  show wpAny M A (spliced [] >>= _) Q E s
  refine wpAny_bind (wpAny_mono h (fun vs s' h' => ?_) fun zz zz x => x)
  refine wpAny_bind (wpAny_pure ?_)
  refine wpAny_holding ?_
  exact wpAny_bind (wpAny_pure (wpAny_bind (wpAny_pure (wpAny_pure h'))))
 | cons x rest =>
  obtain ⟨b, t⟩ := x
  rw [List.any_cons] at hp
  have hb : b = false := by cases b <;> simp_all
  subst hb
  exact evalArgs_plain h
theorem call_args {A : Around} {E : Value → Shared → Prop} {Q : Value → Shared → Prop} {env : PySem.Env} {h₀ : Heap} {m : PySem.Str → Option Value} {G D C : Led} {ad : List Addr} {ρ : Env} {st st' : St} {s : Shared} {es : List PySem.Expr} {ds : List DE} {vs : List V} {pos : Pos} {f : Value} {first : List Value}
 (hA : Room n A) (F : Fix S sc ns env h₀) (R : Rel S ns env h₀ m G D C ad ρ st s) (hs : SEs S n sc ns es ds) (he : evs ds ρ st = .ok vs st') (hk : keepIn S.K f = true)
 (hp : ∀ env pos, (backTo pos (starEach es env)).any (·.1) = false)
 (q : ∀ s' G' D' ad' cs, Rel S ns env h₀ m G' D' C ad' ρ st' s' → G ⊆ G' → ad <+: ad' → Rvs S G' ad' vs cs → wpAny (model S.prog S.w) A (call f (first ++ cs)) Q E s') :
 wpAny (model S.prog S.w) A (callWith pos f first (backTo pos (starEach es env)) []) Q E s := by
 refine callWith_of (by rw [hp]; rfl) (keeps_K hk) (evalArgs_some (hp _ _) ?_)
 exact hs.go hA F R he fun s' G' D' ad' cs R1 g p r => ⟨F.kin.keeps R1.fr.keep, q s' G' D' ad' cs R1 g p r⟩
theorem SE.cal {x : PySem.Str} {p pos : Pos} {es : List PySem.Expr} {ds : List DE} {f : Addr} {Fd : DF} (hf : Fp S n f Fd ds.length) (hs : SEs S n sc ns es ds) (e : nsIn S.K mainGlobals x = some (some (.ref f))) (hk : sc.names.lookup x = some .globalImplicit := by kernel_rfl)
 (hd : (x == ("__debug__" : PySem.Str)) = false := by kernel_rfl) (hp : ∀ env pos, (backTo pos (starEach es env)).any (·.1) = false := by intro _ _; rfl)
 (he : ∀ env, eval (.Call (.Name x p) es [] pos) env = (do callWith pos (← eval (.Name x p) env) [] (backTo pos (starEach es env)) (backToKw pos (keywordEach [] env))) := by intro _; rfl) :
 SE S n sc ns (.Call (.Name x p) es [] pos) (cal Fd ds) := ⟨fun hA F R h q => by
 obtain ⟨vs, s1, e1, h1⟩ := R_ok h
 have l1 := evs_length e1
 refine Call_ (name_glob F R hk e hd (call_args hA F R hs e1 hf.keep hp fun s' G' D' ad' cs R1 g1 p1 r => ?_)) (he _)
 refine wpAny_call (hf.fn hA F R1 (hf.binds cs (by rw [r.length, l1])) r h1 fun s'' G'' D'' ad'' cv R2 g2 p2 r2 => ?_)
 exact q _ _ _ _ _ R2 (List.Subset.trans g1 g2) (p1.trans p2) r2⟩
structure Meth (S : Stage) (n : Nat) (name : PySem.Str) (np : Nat) (c : Nat) (F : DF) : Prop where
 cls : Cls S c
 own : ∀ k, S.an c k ≠ some name
 fn : ∃ f, findIn S.K (.ref (S.cls c)) name = some (some (.ref f)) ∧ isFn S.K (.ref f) = true ∧ Fp S n f F np
def Tab (S : Stage) (n : Nat) (name : PySem.Str) (np : Nat) : List (Nat × DF) → Prop
 | [] => True
 | p :: r => Meth S n name np p.1 p.2 ∧ Tab S n name np r
theorem find_ok {name : PySem.Str} {np : Nat} {c : Nat} {l : List V} {st st' : St} {v : V} : ∀ {tab : List (Nat × DF)}, Tab S n name np tab → find tab c l st = .ok v st' → ∃ F, Meth S n name np c F ∧ F l st = .ok v st'
 | [], _, h => by cases h
 | (a, F) :: r, t, h => by
  have h : (Bool.rec (find r c) F (Nat.beq a c) : DF) l st = .ok v st' := h
  cases q : Nat.beq a c with
  | true =>
   rw [q] at h
   have := Nat.eq_of_beq_eq_true q
   subst this
   exact ⟨F, t.1, h⟩
  | false => rw [q] at h; exact find_ok t.2 h
theorem SE.mcal {o : PySem.Expr} {name : PySem.Str} {ap pos : Pos} {es : List PySem.Expr} {d : DE} {ds : List DE} {tab : List (Nat × DF)} {pl : PySem.Env → Sem Bool} (ht : Tab S n name (ds.length + 1) tab) (ho : SE S n sc ns o d) (hs : SEs S n sc ns es ds)
 (hp : ∀ env pos, (backTo pos (starEach es env)).any (·.1) = false := by intro _ _; rfl)
 (he : ∀ env, eval (.Call (.Attribute o name ap) es [] pos) env = (do
  let ov ← eval o env
  standAt ap.atName
  let (f, first) ← holding [ov] (getMethod ov name (pl env))
  callWith pos f first (backTo pos (starEach es env)) []) := by intro _; rfl) :
 SE S n sc ns (.Call (.Attribute o name ap) es [] pos) (mcal tab d ds) := ⟨fun hA F R h q => by
 obtain ⟨v, s1, e1, h1⟩ := R_ok h
 obtain ⟨i, rfl, ⟨c, f, ha, h2⟩ | ⟨l, _, h2⟩ | ⟨l, _, h2⟩⟩ := onO_ok h1
 · obtain ⟨vs, s2, e2, h3⟩ := R_ok h2
   obtain ⟨Fd, M, h4⟩ := find_ok ht h3
   obtain ⟨fa, m1, m2, m3⟩ := M.fn
   have l1 := evs_length e2
   refine MethodCall_ (pl := pl _) (ho.go hA F R e1 fun s' G' D' ad' cv R1 g1 p1 r => ?_) (he _)
   apply Rv.eref r; intro a ea
   obtain ⟨a', d', ob, x1, x2, x3⟩ := R1.hp.2.2 i _ ha
   rw [ea] at x1; cases x1
   cases x3 with
   | inst _ _ _ _ es' k' y1 y2 =>
    obtain ⟨⟨ks, hn, ha2⟩, _⟩ := y2
    refine method_inst R1.fr F.kin (R1.inst F y1 x2) (M.cls.plain _) m1 m2 (getL_none ha2 fun k zz => M.own k) ?_
    refine call_args hA F R1 hs e2 m3.keep hp fun s'' G'' D'' ad'' cs R2 g2 p2 r2 => ?_
    refine wpAny_call (m3.fn hA F R2 (m3.binds (.ref a :: cs) (by rw [List.length_cons, r2.length, l1])) (.cons (.ref _ _ (get_prefix ea p2)) r2) h4 fun s3 G3 D3 ad3 cv R3 g3 p3 r3 => ?_)
    exact q _ _ _ _ _ R3 (List.Subset.trans g1 (List.Subset.trans g2 g3)) (p1.trans (p2.trans p3)) r3
 · cases h2
 · cases h2⟩
theorem SE.mcal1 {c : Nat} {F : DF} {o : PySem.Expr} {name : PySem.Str} {ap pos : Pos} {es : List PySem.Expr} {d : DE} {ds : List DE} {pl : PySem.Env → Sem Bool} (h1 : Meth S n name (ds.length + 1) c F) (ho : SE S n sc ns o d) (hs : SEs S n sc ns es ds)
 (hp : ∀ env pos, (backTo pos (starEach es env)).any (·.1) = false := by intro _ _; rfl)
 (he : ∀ env, eval (.Call (.Attribute o name ap) es [] pos) env = (do
  let ov ← eval o env
  standAt ap.atName
  let (f, first) ← holding [ov] (getMethod ov name (pl env))
  callWith pos f first (backTo pos (starEach es env)) []) := by intro _; rfl) :
 SE S n sc ns (.Call (.Attribute o name ap) es [] pos) (Mine.mcal [(c, F)] d ds) := SE.mcal (tab := [(c, F)]) ⟨h1, trivial⟩ ho hs hp he
theorem SE.mcal2 {c c' : Nat} {F F' : DF} {o : PySem.Expr} {name : PySem.Str} {ap pos : Pos} {es : List PySem.Expr} {d : DE} {ds : List DE} {pl : PySem.Env → Sem Bool} (h1 : Meth S n name (ds.length + 1) c F) (h2 : Meth S n name (ds.length + 1) c' F') (ho : SE S n sc ns o d) (hs : SEs S n sc ns es ds)
 (hp : ∀ env pos, (backTo pos (starEach es env)).any (·.1) = false := by intro _ _; rfl)
 (he : ∀ env, eval (.Call (.Attribute o name ap) es [] pos) env = (do
  let ov ← eval o env
  standAt ap.atName
  let (f, first) ← holding [ov] (getMethod ov name (pl env))
  callWith pos f first (backTo pos (starEach es env)) []) := by intro _; rfl) :
 SE S n sc ns (.Call (.Attribute o name ap) es [] pos) (Mine.mcal [(c, F), (c', F')] d ds) := SE.mcal (tab := [(c, F), (c', F')]) ⟨h1, h2, trivial⟩ ho hs hp he
structure Mk (S : Stage) (n : Nat) (c : Nat) (F : DF) : Prop where
 keep : keepIn S.K (.ref (S.cls c)) = true
 makes : makesIn S.K (S.cls c) = true
 init : ∃ f, findIn S.K (.ref (S.cls c)) "__init__" = some (some (.ref f)) ∧ typeIn S.K (.ref f) = some (.type "function") ∧ Fn S n f F
theorem Room.under {A : Around} (h : Room (n + 1) A) (C : Addr) (rest : List Value) (kw : List (PySem.Str × Value)) : Room n (A.under (.builtin "type.__call__" ⟨.ref C :: rest, kw⟩)) :=
 ⟨h.hd, by show A.depth + 1 + 8 * n + 8 < _; have := h.dp; omega, by show A.units + 1 + 40 * n + 80 < _; have := h.un; omega⟩
theorem make_it {A : Around} {Rr : Result → Shared → Prop} {env : PySem.Env} {h₀ : Heap} {m : PySem.Str → Option Value} {G D C : Led} {ad : List Addr} {ρ : Env} {st st' st'' : St} {s : Shared} {c mm : Nat} {Fd : DF} {l : List V} {self : V} {args : List Value} {kw : List (PySem.Str × Value)} {cs : List Value}
 (hA : Room (n + 1) A) (F : Fix S sc ns env h₀) (R : Rel S ns env h₀ m G D C ad ρ st s) (X : Mk S n c Fd) (hb : ∀ f x, findIn S.K (.ref (S.cls c)) "__init__" = some (some (.ref f)) → Binds S f ⟨.ref x :: args, kw⟩ (.ref x :: cs)) (r : Rvs S G ad l cs)
 (hn : new (.inst c (uns mm)) st = .ok self st') (hF : Fd (self :: l) st' = .ok .none st'')
 (q : ∀ s' G' D' ad' cv, Rel S ns env h₀ m G' D' C ad' ρ st'' s' → G ⊆ G' → ad <+: ad' → Rv S G' ad' self cv → Rr (.ok (.ret cv)) s') :
 codeAny (model S.prog S.w) A (.call (.ref (S.cls c)) ⟨args, kw⟩) Rr s := by
 obtain ⟨f, m1, m2, m3⟩ := X.init
 obtain ⟨rfl, rfl, hs⟩ := new_ok hn
 refine make_K R.fr R.nw (F.kin.keeps R.fr.keep) X.makes m1 m2 fun x dx h' F' N' lt lx => ?_
 have lt' : ∀ p ∈ G ++ (D ++ C), p.1 < dx := lt
 have R1 : Rel S ns env h₀ m ((x, instObj (S.cls c) dx) :: G) (D ++ [(dx, emptyDict)]) C (ad ++ [x]) ρ ⟨setT st.t st.n (.inst c (uns mm)), st.n + 1⟩ { s with heap := h' } := by
  refine R.push s.toks F' (fun p hp => N' p ?_) (List.subset_cons_self _ _) (fun p hp => Nat.ne_of_lt (lt' p (List.mem_append_right _ hp))) (fun p hp => ?_) hs (.inst c (uns mm) x dx [] 0 (.inl (.head _)) ⟨⟨[], by simp, .nil⟩, fun k v e => by rw [getE_uns] at e; cases e⟩)
  · simp only [List.mem_append, List.mem_cons] at hp ⊢
    rcases hp with (h | h) | h | h | h
    · exact .inl h
    · exact .inr (.inr (.inl h))
    · exact .inr (.inl h)
    · exact .inr (.inr (.inr (.inl h)))
    · exact .inr (.inr (.inr (.inr h)))
  · rcases List.mem_cons.mp hp with rfl | hp
    · exact ⟨Nat.ne_of_gt lx, fun q hq => Nat.ne_of_gt (Nat.lt_trans (lt' q (List.mem_append_right _ hq)) lx)⟩
    · exact ⟨Nat.ne_of_lt (lt' p (List.mem_append_left _ hp)), fun q hq => R.gd p hp q hq⟩
 have rx : Rv S ((x, instObj (S.cls c) dx) :: G) (ad ++ [x]) (.ref st.n) (.ref x) := .ref _ _ (by rw [List.getElem?_append_right (by rw [R.hp.2.1, R.hp.1]; exact Nat.le_refl _), R.hp.2.1, R.hp.1]; simp)
 refine m3 (hA.under _ _ _) F R1 (hb f x m1) (.cons rx (r.mono (List.subset_cons_self _ _) (List.prefix_append _ _))) hF fun s' G' D' ad' cv R2 g2 p2 r2 => ?_
 cases r2
 exact ⟨rfl, q s' G' D' ad' (.ref x) R2 (List.Subset.trans (List.subset_cons_self _ _) g2) ((List.prefix_append _ _).trans p2) (rx.mono g2 p2)⟩
theorem mk_ok {c mm : Nat} {Fd : DF} {ds : List DE} {ρ : Env} {st st' : St} {v : V} (h : mk c mm Fd ds ρ st = .ok v st') : ∃ vs s1 s2, evs ds ρ st = .ok vs s1 ∧ new (.inst c (uns mm)) s1 = .ok v s2 ∧ Fd (v :: vs) s2 = .ok .none st' := by
 obtain ⟨vs, s1, e1, h1⟩ := R_ok h
 obtain ⟨self, s2, e2, h2⟩ := R_ok h1
 obtain ⟨w, s3, e3, h3⟩ := R_ok h2
 cases w with
 | none => cases h3; exact ⟨vs, s1, s2, e1, e2, e3⟩
 | _ => exact absurd h3 (by intro h; cases h)
theorem SE.mk {x : PySem.Str} {p pos : Pos} {es : List PySem.Expr} {ds : List DE} {c mm : Nat} {Fd : DF} (X : Mk S n c Fd)
 (hb : ∀ f x (cs : List Value), findIn S.K (.ref (S.cls c)) "__init__" = some (some (.ref f)) → cs.length = ds.length → Binds S f ⟨.ref x :: cs, []⟩ (.ref x :: cs))
 (hs : SEs S (n + 1) sc ns es ds) (e : nsIn S.K mainGlobals x = some (some (.ref (S.cls c)))) (hk : sc.names.lookup x = some .globalImplicit := by kernel_rfl)
 (hd : (x == ("__debug__" : PySem.Str)) = false := by kernel_rfl) (hp : ∀ env pos, (backTo pos (starEach es env)).any (·.1) = false := by intro _ _; rfl)
 (he : ∀ env, eval (.Call (.Name x p) es [] pos) env = (do callWith pos (← eval (.Name x p) env) [] (backTo pos (starEach es env)) (backToKw pos (keywordEach [] env))) := by intro _; rfl) :
 SE S (n + 1) sc ns (.Call (.Name x p) es [] pos) (mk c mm Fd ds) := ⟨fun hA F R h q => by
 obtain ⟨vs, s1, s2, e1, e2, e3⟩ := mk_ok h
 have l1 := evs_length e1
 refine Call_ (name_glob F R hk e hd (call_args hA F R hs e1 X.keep hp fun s' G' D' ad' cs R1 g1 p1 r => ?_)) (he _)
 refine wpAny_call (make_it hA F R1 X (fun f x hf => hb f x cs hf (by rw [r.length, l1])) r e2 e3 fun s'' G'' D'' ad'' cv R2 g2 p2 r2 => ?_)
 exact q _ _ _ _ _ R2 (List.Subset.trans g1 g2) (p1.trans p2) r2⟩
end
end
end Mine
end
section
namespace Mine
open PySem PySem.SeqAt
open PySem PyProof
def LexAt (A : Around) (s : Shared) (op : CmpOp) (fin : Bool) (r : Bool) : List (Value × Value) → Prop
 | [] => r = fin
 | (x, y) :: rest => (EqAt A s x y true ∧ LexAt A s op fin r rest) ∨ (EqAt A s x y false ∧ ∀ (prog : Program) (w : World) (E Q : Value → Shared → Prop), Q (.bool r) s → wpAny (model prog w) A (richCompare op x y) Q E s)
theorem tuple_ltAt (l b : Addr) (items items2 : Array Value) (n n2 : Nat) (r : Bool) :
 Meets (Builtin.«tuple.__lt__» ⟨[.ref l, .ref b], []⟩)
  (fun A R s => s.heap.get? l = some { cls := .type "tuple", data := .seq items n } ∧ s.heap.get? b = some { cls := .type "tuple", data := .seq items2 n2 } ∧
   LexAt A.in1 s .Lt (decide (items.size < items2.size)) r (items.toList.zip items2.toList) ∧
   R (.ok (.ret (.bool r))) s) :=
 .of_wp fun prog w A R s h => by
  obtain ⟨hp, g, d, tk, os⟩ := s; obtain ⟨hl, hb, he, h⟩ := h
  have f2 := AutoSeq1.sub_tuple_tuple
  wp_walk using wpAny_loadPart' hl, wpAny_loadPart' hb, wpAny_forIn_list _ (fun rest b s' => b.1 = none ∧ s' = ⟨hp, g, d, tk, os⟩ ∧ LexAt A.in1 ⟨hp, g, d, tk, os⟩ .Lt (decide (items.size < items2.size)) r rest) _
  case turn =>
   rintro ⟨y, x⟩ rest b s' ⟨hb', rfl, hx⟩
   rcases hx with ⟨h1, h2⟩ | ⟨h1, h2⟩
   · refine wpAny_bind (h1 prog w _ _ ?_)
     wp_walk
     exact ⟨rfl, rfl, h2⟩
   · refine wpAny_bind (h1 prog w _ _ ?_)
     wp_walk using h2 prog w _ _
     exact ⟨_, rfl, h⟩
  case fin =>
   rintro ⟨b1, b2⟩ s' ⟨hb', rfl, hz⟩
   simp only at hb'
   subst hb'
   have hz : r = decide (items.size < items2.size) := hz
   subst hz
   wp_walk
   exact ⟨_, rfl, by simpa [Builtin.Tuple.tupleCompareSizes] using h⟩
  case h =>
   exact ⟨rfl, rfl, he⟩
theorem tuple_leAt (l b : Addr) (items items2 : Array Value) (n n2 : Nat) (r : Bool) :
 Meets (Builtin.«tuple.__le__» ⟨[.ref l, .ref b], []⟩)
  (fun A R s => s.heap.get? l = some { cls := .type "tuple", data := .seq items n } ∧ s.heap.get? b = some { cls := .type "tuple", data := .seq items2 n2 } ∧
   LexAt A.in1 s .LtE (decide (items.size ≤ items2.size)) r (items.toList.zip items2.toList) ∧
   R (.ok (.ret (.bool r))) s) :=
 .of_wp fun prog w A R s h => by
  obtain ⟨hp, g, d, tk, os⟩ := s; obtain ⟨hl, hb, he, h⟩ := h
  have f2 := AutoSeq1.sub_tuple_tuple
  wp_walk using wpAny_loadPart' hl, wpAny_loadPart' hb, wpAny_forIn_list _ (fun rest b s' => b.1 = none ∧ s' = ⟨hp, g, d, tk, os⟩ ∧ LexAt A.in1 ⟨hp, g, d, tk, os⟩ .LtE (decide (items.size ≤ items2.size)) r rest) _
  case turn =>
   rintro ⟨y, x⟩ rest b s' ⟨hb', rfl, hx⟩
   rcases hx with ⟨h1, h2⟩ | ⟨h1, h2⟩
   · refine wpAny_bind (h1 prog w _ _ ?_)
     wp_walk
     exact ⟨rfl, rfl, h2⟩
   · refine wpAny_bind (h1 prog w _ _ ?_)
     wp_walk using h2 prog w _ _
     exact ⟨_, rfl, h⟩
  case fin =>
   rintro ⟨b1, b2⟩ s' ⟨hb', rfl, hz⟩
   simp only at hb'
   subst hb'
   have hz : r = decide (items.size ≤ items2.size) := hz
   subst hz
   wp_walk
   exact ⟨_, rfl, by simpa [Builtin.Tuple.tupleCompareSizes] using h⟩
  case h =>
   exact ⟨rfl, rfl, he⟩
theorem tuple_geAt (l b : Addr) (items items2 : Array Value) (n n2 : Nat) (r : Bool) :
 Meets (Builtin.«tuple.__ge__» ⟨[.ref l, .ref b], []⟩)
  (fun A R s => s.heap.get? l = some { cls := .type "tuple", data := .seq items n } ∧ s.heap.get? b = some { cls := .type "tuple", data := .seq items2 n2 } ∧
   LexAt A.in1 s .GtE (decide (items.size ≥ items2.size)) r (items.toList.zip items2.toList) ∧
   R (.ok (.ret (.bool r))) s) :=
 .of_wp fun prog w A R s h => by
  obtain ⟨hp, g, d, tk, os⟩ := s; obtain ⟨hl, hb, he, h⟩ := h
  have f2 := AutoSeq1.sub_tuple_tuple
  wp_walk using wpAny_loadPart' hl, wpAny_loadPart' hb, wpAny_forIn_list _ (fun rest b s' => b.1 = none ∧ s' = ⟨hp, g, d, tk, os⟩ ∧ LexAt A.in1 ⟨hp, g, d, tk, os⟩ .GtE (decide (items.size ≥ items2.size)) r rest) _
  case turn =>
   rintro ⟨y, x⟩ rest b s' ⟨hb', rfl, hx⟩
   rcases hx with ⟨h1, h2⟩ | ⟨h1, h2⟩
   · refine wpAny_bind (h1 prog w _ _ ?_)
     wp_walk
     exact ⟨rfl, rfl, h2⟩
   · refine wpAny_bind (h1 prog w _ _ ?_)
     wp_walk using h2 prog w _ _
     exact ⟨_, rfl, h⟩
  case fin =>
   rintro ⟨b1, b2⟩ s' ⟨hb', rfl, hz⟩
   simp only at hb'
   subst hb'
   have hz : r = decide (items.size ≥ items2.size) := hz
   subst hz
   wp_walk
   exact ⟨_, rfl, by simpa [Builtin.Tuple.tupleCompareSizes] using h⟩
  case h =>
   exact ⟨rfl, rfl, he⟩
theorem tuple_gtAt (l b : Addr) (items items2 : Array Value) (n n2 : Nat) (r : Bool) :
 Meets (Builtin.«tuple.__gt__» ⟨[.ref l, .ref b], []⟩)
  (fun A R s => s.heap.get? l = some { cls := .type "tuple", data := .seq items n } ∧ s.heap.get? b = some { cls := .type "tuple", data := .seq items2 n2 } ∧
   LexAt A.in1 s .Gt (decide (items.size > items2.size)) r (items.toList.zip items2.toList) ∧
   R (.ok (.ret (.bool r))) s) :=
 .of_wp fun prog w A R s h => by
  obtain ⟨hp, g, d, tk, os⟩ := s; obtain ⟨hl, hb, he, h⟩ := h
  have f2 := AutoSeq1.sub_tuple_tuple
  wp_walk using wpAny_loadPart' hl, wpAny_loadPart' hb, wpAny_forIn_list _ (fun rest b s' => b.1 = none ∧ s' = ⟨hp, g, d, tk, os⟩ ∧ LexAt A.in1 ⟨hp, g, d, tk, os⟩ .Gt (decide (items.size > items2.size)) r rest) _
  case turn =>
   rintro ⟨y, x⟩ rest b s' ⟨hb', rfl, hx⟩
   rcases hx with ⟨h1, h2⟩ | ⟨h1, h2⟩
   · refine wpAny_bind (h1 prog w _ _ ?_)
     wp_walk
     exact ⟨rfl, rfl, h2⟩
   · refine wpAny_bind (h1 prog w _ _ ?_)
     wp_walk using h2 prog w _ _
     exact ⟨_, rfl, h⟩
  case fin =>
   rintro ⟨b1, b2⟩ s' ⟨hb', rfl, hz⟩
   simp only at hb'
   subst hb'
   have hz : r = decide (items.size > items2.size) := hz
   subst hz
   wp_walk
   exact ⟨_, rfl, by simpa [Builtin.Tuple.tupleCompareSizes] using h⟩
  case h =>
   exact ⟨rfl, rfl, he⟩
def EqLex (A : Around) (s : Shared) (fin : Bool) (r : Bool) : List (Value × Value) → Prop
 | [] => r = fin
 | (x, y) :: rest => (EqAt A s x y true ∧ EqLex A s fin r rest) ∨ (EqAt A s x y false ∧ r = false)
theorem tuple_eqLex (l b : Addr) (items items2 : Array Value) (n n2 : Nat) (r : Bool) :
 Meets (Builtin.«tuple.__eq__» ⟨[.ref l, .ref b], []⟩)
  (fun A R s => s.heap.get? l = some { cls := .type "tuple", data := .seq items n } ∧ s.heap.get? b = some { cls := .type "tuple", data := .seq items2 n2 } ∧
   EqLex A.in1 s (items.size == items2.size) r (items.toList.zip items2.toList) ∧
   R (.ok (.ret (.bool r))) s) :=
 .of_wp fun prog w A R s h => by
  obtain ⟨hp, g, d, tk, os⟩ := s; obtain ⟨hl, hb, he, h⟩ := h
  have f2 := AutoSeq1.sub_tuple_tuple
  wp_walk using wpAny_loadPart' hl, wpAny_loadPart' hb, wpAny_forIn_list _ (fun rest b s' => b.1 = none ∧ s' = ⟨hp, g, d, tk, os⟩ ∧ EqLex A.in1 ⟨hp, g, d, tk, os⟩ (items.size == items2.size) r rest) _
  case turn =>
   rintro ⟨y, x⟩ rest b s' ⟨hb', rfl, hx⟩
   rcases hx with ⟨h1, h2⟩ | ⟨h1, rfl⟩
   · refine wpAny_bind (h1 prog w _ _ ?_)
     wp_walk
     exact ⟨rfl, rfl, h2⟩
   · refine wpAny_bind (h1 prog w _ _ ?_)
     wp_walk
     exact ⟨_, rfl, h⟩
  case fin =>
   rintro ⟨b1, b2⟩ s' ⟨hb', rfl, hz⟩
   simp only at hb'
   subst hb'
   have hz : r = (items.size == items2.size) := hz
   subst hz
   wp_walk
   exact ⟨_, rfl, by simpa [Builtin.Tuple.tupleCompareSizes] using h⟩
  case h =>
   exact ⟨rfl, rfl, he⟩
theorem RcAt.lex {A : Around} {s : Shared} {l b : Addr} {items items2 : Array Value} {n n2 : Nat} {r : Bool} (hl : s.heap.get? l = some { cls := .type "tuple", data := .seq items n }) (hb : s.heap.get? b = some { cls := .type "tuple", data := .seq items2 n2 }) (hu : A.units < cLine)
 (he : EqLex A.in1 s (items.size == items2.size) r (items.toList.zip items2.toList)) : RcAt A s (.ref l) (.ref b) r := fun prog w E Q h => by
 exact richCompare_meets_room (op := .Eq) ⟨_, hl, rfl⟩ ⟨_, hb, rfl⟩ F.slot_tuple_eq F.entry_tuple_eq (F.args_tuple_eq_2 _ _) (tuple_eqLex l b items items2 n n2 r)
  ⟨hl, hb, he, show Value.bool r ≠ Value.notImplemented ∧ Q (.bool r) s from ⟨(fun x => nomatch x), h⟩⟩ hu
def RcOp (A : Around) (s : Shared) (op : CmpOp) (y x : Value) (b : Bool) : Prop :=
 ∀ (prog : Program) (w : World) (E : Value → Shared → Prop) (Q : Value → Shared → Prop), Q (.bool b) s → wpAny (model prog w) A (richCompare op y x) Q E s
theorem RcOp.lt {A : Around} {s : Shared} {l b : Addr} {items items2 : Array Value} {n n2 : Nat} {r : Bool} (hl : s.heap.get? l = some { cls := .type "tuple", data := .seq items n }) (hb : s.heap.get? b = some { cls := .type "tuple", data := .seq items2 n2 }) (hu : A.units < cLine)
 (he : LexAt A.in1 s .Lt (decide (items.size < items2.size)) r (items.toList.zip items2.toList)) : RcOp A s .Lt (.ref l) (.ref b) r := fun prog w E Q h => by
 exact richCompare_meets_room (op := .Lt) ⟨_, hl, rfl⟩ ⟨_, hb, rfl⟩ F.slot_tuple_lt F.entry_tuple_lt (F.args_tuple_lt_2 _ _) (tuple_ltAt l b items items2 n n2 r)
  ⟨hl, hb, he, show Value.bool r ≠ Value.notImplemented ∧ Q (.bool r) s from ⟨(fun x => nomatch x), h⟩⟩ hu
theorem RcOp.le {A : Around} {s : Shared} {l b : Addr} {items items2 : Array Value} {n n2 : Nat} {r : Bool} (hl : s.heap.get? l = some { cls := .type "tuple", data := .seq items n }) (hb : s.heap.get? b = some { cls := .type "tuple", data := .seq items2 n2 }) (hu : A.units < cLine)
 (he : LexAt A.in1 s .LtE (decide (items.size ≤ items2.size)) r (items.toList.zip items2.toList)) : RcOp A s .LtE (.ref l) (.ref b) r := fun prog w E Q h => by
 exact richCompare_meets_room (op := .LtE) ⟨_, hl, rfl⟩ ⟨_, hb, rfl⟩ F.slot_tuple_le F.entry_tuple_le (F.args_tuple_le_2 _ _) (tuple_leAt l b items items2 n n2 r)
  ⟨hl, hb, he, show Value.bool r ≠ Value.notImplemented ∧ Q (.bool r) s from ⟨(fun x => nomatch x), h⟩⟩ hu
theorem RcOp.ge {A : Around} {s : Shared} {l b : Addr} {items items2 : Array Value} {n n2 : Nat} {r : Bool} (hl : s.heap.get? l = some { cls := .type "tuple", data := .seq items n }) (hb : s.heap.get? b = some { cls := .type "tuple", data := .seq items2 n2 }) (hu : A.units < cLine)
 (he : LexAt A.in1 s .GtE (decide (items.size ≥ items2.size)) r (items.toList.zip items2.toList)) : RcOp A s .GtE (.ref l) (.ref b) r := fun prog w E Q h => by
 exact richCompare_meets_room (op := .GtE) ⟨_, hl, rfl⟩ ⟨_, hb, rfl⟩ F.slot_tuple_ge F.entry_tuple_ge (F.args_tuple_ge_2 _ _) (tuple_geAt l b items items2 n n2 r)
  ⟨hl, hb, he, show Value.bool r ≠ Value.notImplemented ∧ Q (.bool r) s from ⟨(fun x => nomatch x), h⟩⟩ hu
theorem RcOp.gt {A : Around} {s : Shared} {l b : Addr} {items items2 : Array Value} {n n2 : Nat} {r : Bool} (hl : s.heap.get? l = some { cls := .type "tuple", data := .seq items n }) (hb : s.heap.get? b = some { cls := .type "tuple", data := .seq items2 n2 }) (hu : A.units < cLine)
 (he : LexAt A.in1 s .Gt (decide (items.size > items2.size)) r (items.toList.zip items2.toList)) : RcOp A s .Gt (.ref l) (.ref b) r := fun prog w E Q h => by
 exact richCompare_meets_room (op := .Gt) ⟨_, hl, rfl⟩ ⟨_, hb, rfl⟩ F.slot_tuple_gt F.entry_tuple_gt (F.args_tuple_gt_2 _ _) (tuple_gtAt l b items items2 n n2 r)
  ⟨hl, hb, he, show Value.bool r ≠ Value.notImplemented ∧ Q (.bool r) s from ⟨(fun x => nomatch x), h⟩⟩ hu
end Mine
end
section
namespace Mine
open PySem PySem.W PySem.Calls PyProof.Rows PySem.SeqAt
noncomputable section
section
variable {S : Stage} {n : Nat} {sc : Scope} {ns : List (Option PySem.Str)}
theorem eqI_eq (i j : Int) : eqI i j = (i == j) := by
 cases i with
 | ofNat m => cases j with
  | ofNat n =>
   show Nat.beq m n = _
   rw [BT.beq_eq]
   by_cases h : m = n
   · subst h; simp
   · rw [decide_eq_false h]
     have : ((Int.ofNat m : Int) == Int.ofNat n) = false := by rw [beq_eq_false_iff_ne]; intro q; exact h (Int.ofNat.inj q)
     rw [this]
  | negSucc n => rfl
 | negSucc m => cases j with
  | ofNat n => rfl
  | negSucc n =>
   show Nat.beq m n = _
   rw [BT.beq_eq]
   by_cases h : m = n
   · subst h; simp
   · rw [decide_eq_false h]
     have : ((Int.negSucc m : Int) == Int.negSucc n) = false := by rw [beq_eq_false_iff_ne]; intro q; exact h (Int.negSucc.inj q)
     rw [this]
theorem ltI_eq (i j : Int) : ltI i j = decide (i < j) := by
 cases i with
 | ofNat m => cases j with
  | ofNat n =>
   show Nat.ble (Nat.succ m) n = _
   by_cases h : m < n
   · rw [Nat.ble_eq_true_of_le h]; symm; apply decide_eq_true; show (m : Int) < (n : Int); omega
   · have : Nat.ble (Nat.succ m) n = false := by
      cases q : Nat.ble (Nat.succ m) n with
      | false => rfl
      | true => exact absurd (Nat.le_of_ble_eq_true q) h
     rw [this]; symm; apply decide_eq_false; show ¬ (m : Int) < (n : Int); omega
  | negSucc n => symm; apply decide_eq_false; show ¬ (m : Int) < Int.negSucc n; omega
 | negSucc m => cases j with
  | ofNat n => symm; apply decide_eq_true; show Int.negSucc m < (n : Int); omega
  | negSucc n =>
   show Nat.ble (Nat.succ n) m = _
   by_cases h : n < m
   · rw [Nat.ble_eq_true_of_le h]; symm; apply decide_eq_true; omega
   · have : Nat.ble (Nat.succ n) m = false := by
      cases q : Nat.ble (Nat.succ n) m with
      | false => rfl
      | true => exact absurd (Nat.le_of_ble_eq_true q) h
     rw [this]; symm; apply decide_eq_false; omega
theorem b3_inj {a b : Bool} (h : b3 a = b3 b) : a = b := by cases a <;> cases b <;> first | rfl | cases h
theorem b3_no {b : Bool} (h : B3.no = b3 b) : b = false := by cases b <;> first | rfl | cases h
theorem b3_yes {b : Bool} (h : B3.yes = b3 b) : b = true := by cases b <;> first | rfl | cases h
theorem b3_er {b : Bool} (h : B3.er = b3 b) : False := by cases b <;> cases h
theorem eqNs_eq : ∀ (a b : List Nat), eqNs a b = b3 (decide (a = b))
 | [], [] => rfl
 | [], _ :: _ => rfl
 | _ :: _, [] => rfl
 | x :: a, y :: b => by
  show (Bool.rec .no (eqNs a b) (Nat.beq x y) : B3) = _
  rw [BT.beq_eq]
  by_cases h : x = y
  · subst h
    rw [decide_eq_true rfl, eqNs_eq a b]
    show b3 _ = b3 _
    congr 1
    simp
  · rw [decide_eq_false h]
    have : decide (x :: a = y :: b) = false := by simp [h]
    rw [this]; rfl
variable {G : Led} {ad : List Addr} {s : Shared}
def Stands (S : Stage) (G : Led) (s : Shared) : Prop := ∀ a o, Obs S G a o → s.heap.get? a = some o
theorem Stands.tup (h : Stands S G s) {a : Addr} {vs ws : List Value} {k j : Nat} (h1 : Obs S G a (tupOf vs k)) (h2 : Obs S G a (tupOf ws j)) : vs = ws := by
 have a1 := h _ _ h1
 rw [h _ _ h2] at a1
 injection a1 with a1
 injection a1 with _ _ a1 _
 injection a1 with a1 _
 have := congrArg Array.toList a1
 simpa using this.symm
theorem eqL_same {f : V → V → B3} (hf : ∀ v w c, Rv S G ad v c → Rv S G ad w c → f v w ≠ .no) : ∀ {xs ys : List V} {cs : List Value}, Rvs S G ad xs cs → Rvs S G ad ys cs → eqL f xs ys ≠ .no := by
 intro xs ys cs r
 revert ys
 apply r.ind
 · intro ys t h
   cases t
   cases h
 · intro x c xs cs a _ ih ys t h
   cases t with
   | @cons y _ ys _ b t =>
    have h : (B3.rec .no (eqL f xs ys) .er (f x y) : B3) = .no := h
    cases q : f x y with
    | no => exact hf _ _ _ a b q
    | yes => rw [q] at h; exact ih t h
    | er => rw [q] at h; cases h
theorem allP_same {f : V → V → B3} (hf : ∀ v w c, Rv S G ad v c → Rv S G ad w c → f v w ≠ .no) : ∀ {xs ys : List V} {cs : List Value}, Rvs S G ad xs cs → Rvs S G ad ys cs → allP f xs ys ≠ .no
 | _, _, _, .nil, .nil => by intro h; cases h
 | _, _, _, .cons (v := x) (l := xs) a r, .cons (v := y) (l := ys) b t => by
  intro h
  have h : (B3.rec (B3.rec .no .no .er (allP f xs ys)) (allP f xs ys) .er (f x y) : B3) = .no := h
  cases q : f x y with
  | no => exact hf _ _ _ a b q
  | yes => rw [q] at h; exact allP_same hf r t h
  | er => rw [q] at h; cases h
theorem Stands.lst (h : Stands S G s) {a : Addr} {vs ws : List Value} {k j : Nat} (h1 : Obs S G a (lstOf vs k)) (h2 : Obs S G a (lstOf ws j)) : vs = ws := by
 have a1 := h _ _ h1
 rw [h _ _ h2] at a1
 injection a1 with a1
 injection a1 with _ _ a1 _
 injection a1 with a1 _
 have := congrArg Array.toList a1
 simpa using this.symm
theorem eqV_same (hs : Stands S G s) : ∀ (n : Nat) (v w : V) (c : Value), Rv S G ad v c → Rv S G ad w c → eqV n v w ≠ .no
 | 0, _, _, _, _, _ => by intro h; cases h
 | n + 1, v, w, c, a, b => by
  intro h
  cases a with
  | none => cases b; cases h
  | bool x => cases b; have h : b3 (eqB x x) = .no := h; cases x <;> cases h
  | int i t => cases b; have h : b3 (eqI i i) = .no := h; rw [eqI_eq] at h; simp at h; cases h
  | str k t =>
   generalize e : Value.str (S.nm k) t = c at b
   cases b with
   | str j u =>
    injection e with e1 e2
    have := S.inj _ _ e1
    subst this
    have h : b3 (Nat.beq k k) = .no := h
    rw [Nat.beq_refl] at h; cases h
   | _ => cases e
  | bytes l bb t e =>
   cases b with
   | bytes l' _ _ e' =>
    have h : eqNs l l' = .no := h
    rw [eqNs_eq, ← e, ← e'] at h
    rw [decide_eq_true rfl] at h; cases h
  | tup l vs x k o r =>
   cases b with
   | tup l' ws _ j p t =>
    have := hs.tup o p
    subst this
    have h : eqL (eqV n) l l' = .no := h
    exact eqL_same (eqV_same hs n) r t h
   | _ => cases h
  | lst l vs x k o r =>
   cases b with
   | lst l' ws _ j p t =>
    have := hs.lst o p
    subst this
    have h : (Bool.rec .no (allP (eqV n) l l') (Nat.beq (len l) (len l')) : B3) = .no := h
    rw [len_eq, len_eq, ← r.length, ← t.length, Nat.beq_refl] at h
    exact allP_same (eqV_same hs n) r t h
   | _ => cases h
  | dct _ _ _ _ _ _ => cases h
  | ref _ _ _ => cases h
theorem eqL_lex {A : Around} {f : V → V → B3} (hf : ∀ v w cv cw b, f v w = b3 b → Rv S G ad v cv → Rv S G ad w cw → EqAt A s cv cw b) : ∀ {xs ys : List V} {vs ws : List Value} {r : Bool}, Rvs S G ad xs vs → Rvs S G ad ys ws → eqL f xs ys = b3 r →
 EqLex A s (vs.length == ws.length) r (vs.zip ws) := by
 intro xs ys vs ws r ra
 revert ys ws r
 apply ra.ind
 · intro ys ws r rb h
   cases rb with
   | nil => exact b3_yes h
   | cons _ _ => exact b3_no h
 · intro x _ xs cs a _ ih ys ws r rb h
   cases rb with
   | nil => exact b3_no h
   | @cons y _ ys ds b rb =>
    have h : (B3.rec .no (eqL f xs ys) .er (f x y) : B3) = b3 r := h
    cases q : f x y with
    | no => rw [q] at h; exact .inr ⟨hf _ _ _ _ false q a b, b3_no h⟩
    | yes =>
     rw [q] at h
     refine .inl ⟨hf _ _ _ _ true q a b, ?_⟩
     have := ih rb h
     rw [List.length_cons, List.length_cons]
     have e : ∀ m k : Nat, (m + 1 == k + 1) = (m == k) := fun m k => by rw [Bool.eq_iff_iff]; simp
     rw [e]
     exact this
    | er => rw [q] at h; exact (b3_er h).elim
theorem allP_all {A : Around} {f : V → V → B3} (hf : ∀ v w cv cw b, f v w = b3 b → Rv S G ad v cv → Rv S G ad w cw → EqAt A s cv cw b) : ∀ {xs ys : List V} {vs ws : List Value} {r : Bool}, Rvs S G ad xs vs → Rvs S G ad ys ws → allP f xs ys = b3 r → vs.length = ws.length →
 ∃ e : Nat → Bool, (∀ j (h1 : j < vs.length) (h2 : j < ws.length), EqAt A s vs[j] ws[j] (e j)) ∧ r = (List.range vs.length).all e := by
 intro xs ys vs ws r ra
 revert ys ws r
 apply ra.ind
 · intro ys ws r rb h hl
   cases rb with
   | nil => exact ⟨fun zz => true, fun j h1 => absurd h1 (Nat.not_lt_zero _), b3_yes h⟩
   | cons _ _ => cases hl
 · intro x cx xs cs a _ ih ys ws r rb h hl
   cases rb with
   | nil => cases hl
   | @cons y cy ys ds b rb =>
    have h : (B3.rec (B3.rec .no .no .er (allP f xs ys)) (allP f xs ys) .er (f x y) : B3) = b3 r := h
    have hl : cs.length = ds.length := by simpa using hl
    have go : ∀ (b0 r' : Bool), f x y = b3 b0 → allP f xs ys = b3 r' → r = (b0 && r') → ∃ e : Nat → Bool, (∀ j (h1 : j < (cx :: cs).length) (h2 : j < (cy :: ds).length), EqAt A s (cx :: cs)[j] (cy :: ds)[j] (e j)) ∧ r = (List.range (cs.length + 1)).all e := by
     intro b0 r' q1 q2 q3
     obtain ⟨e, h1, h2⟩ := ih rb q2 hl
     refine ⟨fun j => match j with | 0 => b0 | j + 1 => e j, fun j j1 j2 => ?_, ?_⟩
     · cases j with
       | zero => exact hf _ _ _ _ b0 q1 a b
       | succ j => exact h1 j (Nat.lt_of_succ_lt_succ j1) (Nat.lt_of_succ_lt_succ j2)
     · rw [List.range_succ_eq_map, List.all_cons, List.all_map, q3, h2]
       rfl
    cases q : f x y with
    | no =>
     rw [q] at h
     cases q2 : allP f xs ys with
     | no => rw [q2] at h; exact go false false q q2 (b3_no h)
     | yes => rw [q2] at h; exact go false true q q2 (b3_no h)
     | er => rw [q2] at h; exact (b3_er h).elim
    | yes =>
     rw [q] at h
     exact go true r q h (by simp)
    | er => rw [q] at h; exact (b3_er h).elim
theorem lists_eq {A : Around} {f : V → V → B3} (hf : ∀ v w cv cw b, f v w = b3 b → Rv S G ad v cv → Rv S G ad w cw → EqAt A.in1 s cv cw b) {xs ys : List V} {vs ws : List Value} {r : Bool} {a b : Addr} {k j : Nat} (h : eqT f xs ys = b3 r) (h1 : Rvs S G ad xs vs) (h2 : Rvs S G ad ys ws)
 (ha : s.heap.get? a = some (lstOf vs k)) (hb : s.heap.get? b = some (lstOf ws j)) (hu : A.units < cLine) : RcAt A s (.ref a) (.ref b) r := by
 have la : s.heap.IsList a vs.toArray := ⟨_, ha, rfl, _, rfl⟩
 have lb : s.heap.IsList b ws.toArray := ⟨_, hb, rfl, _, rfl⟩
 have h : (Bool.rec .no (allP f xs ys) (Nat.beq (len xs) (len ys)) : B3) = b3 r := h
 rw [len_eq, len_eq, ← h1.length, ← h2.length, BT.beq_eq] at h
 by_cases q : vs.length = ws.length
 · rw [decide_eq_true q] at h
   obtain ⟨e, e1, e2⟩ := allP_all hf h1 h2 h q
   rw [e2]
   have := RcAt.lists (e := e) la lb (by simpa using q) hu fun i i1 i2 => by
    have := e1 i (by simpa using i1) (by simpa using i2)
    simpa using this
   simpa using this
 · rw [decide_eq_false q] at h
   rw [b3_no h]
   exact RcAt.lists_lengths la lb (by simpa using q) hu
theorem eq_both (hs : Stands S G s) : ∀ (n : Nat) (A : Around) (v w : V) (cv cw : Value) (b : Bool), eqV n v w = b3 b → Rv S G ad v cv → Rv S G ad w cw → A.units + n < cLine → RcAt A s cv cw b ∧ EqAt A s cv cw b
 | 0, _, _, _, _, _, b, h, _, _, _ => (b3_er h).elim
 | n + 1, A, v, w, cv, cw, b, h, ra, rb, hu => by
  have hu0 : A.units < cLine := by omega
  have ih : ∀ v w cv cw b, eqV n v w = b3 b → Rv S G ad v cv → Rv S G ad w cw → EqAt A.in1 s cv cw b := fun v w cv cw b h ra rb => (eq_both hs n A.in1 v w cv cw b h ra rb (by show A.units + 1 + n < _; omega)).2
  cases ra with
  | none =>
   cases rb with
   | none => rw [b3_yes h]; exact ⟨RcAt.none_none, EqAt.same _⟩
   | int i t => rw [b3_no h]; exact ⟨RcAt.none_int i t, EqAt.none_int i t⟩
   | str k t => rw [b3_no h]; exact ⟨RcAt.none_str _ t, EqAt.none_str _ t⟩
   | tup l vs a k o r => rw [b3_no h]; exact ⟨RcAt.none_tuple ⟨_, hs _ _ o, rfl, _, rfl⟩ hu0, EqAt.none_tuple ⟨_, hs _ _ o, rfl, _, rfl⟩ hu0⟩
   | _ => exact (b3_er h).elim
  | bool x =>
   cases rb with
   | bool y =>
    have h : b3 (eqB x y) = b3 b := h
    have e : eqB x y = (x == y) := by cases x <;> cases y <;> rfl
    rw [← b3_inj h, e]; exact ⟨RcAt.bool_bool x y, EqAt.bool_bool x y⟩
   | _ => exact (b3_er h).elim
  | int i t =>
   cases rb with
   | none => rw [b3_no h]; exact ⟨RcAt.int_none i t, EqAt.int_none i t⟩
   | int j u =>
    have h : b3 (eqI i j) = b3 b := h
    rw [← b3_inj h, eqI_eq]; exact ⟨RcAt.int_int i t j u, EqAt.int_int i t j u⟩
   | str k u => rw [b3_no h]; exact ⟨RcAt.int_str i t _ u, EqAt.int_str i t _ u⟩
   | _ => exact (b3_er h).elim
  | str k t =>
   cases rb with
   | none => rw [b3_no h]; exact ⟨RcAt.str_none _ t, EqAt.str_none _ t⟩
   | int j u => rw [b3_no h]; exact ⟨RcAt.str_int _ t j u, EqAt.str_int _ t j u⟩
   | str j u =>
    have h : b3 (Nat.beq k j) = b3 b := h
    have e : (S.nm k == S.nm j) = Nat.beq k j := by
     rw [BT.beq_eq]
     by_cases q : k = j
     · subst q; simp
     · rw [decide_eq_false q]
       cases z : (S.nm k == S.nm j) with
       | false => rfl
       | true => exact absurd (S.inj _ _ (eq_of_beq z)) q
    rw [← b3_inj h, ← e]; exact ⟨RcAt.str_str _ t _ u, EqAt.str_str _ t _ u⟩
   | _ => exact (b3_er h).elim
  | bytes l bb t e =>
   cases rb with
   | bytes l' cc u e' =>
    have h : eqNs l l' = b3 b := h
    rw [eqNs_eq] at h
    have e2 : decide (l = l') = decide (bb.toList = cc.toList) := by
     apply decide_eq_decide.mpr
     rw [← e, ← e']
     constructor
     · intro q
       have inj : ∀ (p q : List UInt8), p.map UInt8.toNat = q.map UInt8.toNat → p = q := by
        intro p
        induction p with
        | nil => intro q h; cases q with | nil => rfl | cons _ _ => cases h
        | cons x p ihp =>
         intro q h
         cases q with
         | nil => cases h
         | cons y q =>
          rw [List.map_cons, List.map_cons] at h
          injection h with h1 h2
          rw [UInt8.toNat_inj.mp h1, ihp q h2]
       exact inj _ _ q
     · intro q; rw [q]
    rw [← b3_inj h, e2]
    refine ⟨fun prog w E Q hq => ?_, fun prog w E Q hq => PySem.W.eqBool_bytes hq⟩
    refine PySem.W.eq_bytes ?_
    have e3 : (bb.toList == cc.toList) = decide (bb.toList = cc.toList) := by
     by_cases q : bb.toList = cc.toList
     · rw [q]; simp
     · rw [decide_eq_false q, beq_eq_false_iff_ne.mpr q]
    rw [e3]; exact hq
   | _ => exact (b3_er h).elim
  | tup l vs x k o r =>
   cases rb with
   | tup l' ws y j p t =>
    have h0 := h
    have h : eqL (eqV n) l l' = b3 b := h
    have L := eqL_lex ih r t h
    have e1 : (vs.toArray.size == ws.toArray.size) = (vs.length == ws.length) := by simp
    have rc : RcAt A s (.ref x) (.ref y) b := RcAt.lex (hs _ _ o) (hs _ _ p) hu0 (by rw [e1]; exact L)
    refine ⟨rc, ?_⟩
    by_cases q : x = y
    · subst q
      have : b = true := by
       cases b with
       | true => rfl
       | false => exact absurd h0 (eqV_same hs (n + 1) _ _ _ (.tup l vs x k o r) (.tup l' ws x j p t))
      rw [this]; exact EqAt.same _
    · exact EqAt.of_refs q rc
   | none => rw [b3_no h]; exact ⟨RcAt.tuple_none ⟨_, hs _ _ o, rfl, _, rfl⟩ hu0, EqAt.tuple_none ⟨_, hs _ _ o, rfl, _, rfl⟩ hu0⟩
   | _ => exact (b3_er h).elim
  | lst l vs x k o r =>
   cases rb with
   | lst l' ws y j p t =>
    have h0 := h
    have h : eqT (eqV n) l l' = b3 b := h
    have rc := lists_eq ih h r t (hs _ _ o) (hs _ _ p) hu0
    refine ⟨rc, ?_⟩
    by_cases q : x = y
    · subst q
      have : b = true := by
       cases b with
       | true => rfl
       | false => exact absurd h0 (eqV_same hs (n + 1) _ _ _ (.lst l vs x k o r) (.lst l' ws x j p t))
      rw [this]; exact EqAt.same _
    · exact EqAt.of_refs q rc
   | _ => exact (b3_er h).elim
  | dct _ _ _ _ _ _ => exact (b3_er h).elim
  | ref _ _ _ => exact (b3_er h).elim
end
end
end Mine
end
section
namespace Mine
open PySem PySem.SeqAt
open PySem PyProof
theorem tuple_neLex (l b : Addr) (items items2 : Array Value) (n n2 : Nat) (r : Bool) :
 Meets (Builtin.«tuple.__ne__» ⟨[.ref l, .ref b], []⟩)
  (fun A R s => s.heap.get? l = some { cls := .type "tuple", data := .seq items n } ∧ s.heap.get? b = some { cls := .type "tuple", data := .seq items2 n2 } ∧
   EqLex A.in1 s (items.size == items2.size) r (items.toList.zip items2.toList) ∧
   R (.ok (.ret (.bool (!r)))) s) :=
 .of_wp fun prog w A R s h => by
  obtain ⟨hp, g, d, tk, os⟩ := s; obtain ⟨hl, hb, he, h⟩ := h
  have f2 := AutoSeq1.sub_tuple_tuple
  wp_walk using wpAny_loadPart' hl, wpAny_loadPart' hb, wpAny_forIn_list _ (fun rest b s' => b.1 = none ∧ s' = ⟨hp, g, d, tk, os⟩ ∧ EqLex A.in1 ⟨hp, g, d, tk, os⟩ (items.size == items2.size) r rest) _
  case turn =>
   rintro ⟨y, x⟩ rest b s' ⟨hb', rfl, hx⟩
   rcases hx with ⟨h1, h2⟩ | ⟨h1, rfl⟩
   · refine wpAny_bind (h1 prog w _ _ ?_)
     wp_walk
     exact ⟨rfl, rfl, h2⟩
   · refine wpAny_bind (h1 prog w _ _ ?_)
     wp_walk
     exact ⟨_, rfl, h⟩
  case fin =>
   rintro ⟨b1, b2⟩ s' ⟨hb', rfl, hz⟩
   simp only at hb'
   subst hb'
   have hz : r = (items.size == items2.size) := hz
   subst hz
   wp_walk
   exact ⟨_, rfl, by simpa [Builtin.Tuple.tupleCompareSizes, bne] using h⟩
  case h =>
   exact ⟨rfl, rfl, he⟩
theorem RcNeAt.lex {A : Around} {s : Shared} {l b : Addr} {items items2 : Array Value} {n n2 : Nat} {r : Bool} (hl : s.heap.get? l = some { cls := .type "tuple", data := .seq items n }) (hb : s.heap.get? b = some { cls := .type "tuple", data := .seq items2 n2 }) (hu : A.units < cLine)
 (he : EqLex A.in1 s (items.size == items2.size) r (items.toList.zip items2.toList)) : RcNeAt A s (.ref l) (.ref b) (!r) := fun prog w E Q h => by
 exact richCompare_meets_room (op := .NotEq) ⟨_, hl, rfl⟩ ⟨_, hb, rfl⟩ F.slot_tuple_ne F.entry_tuple_ne (F.args_tuple_ne_2 _ _) (tuple_neLex l b items items2 n n2 r)
  ⟨hl, hb, he, show Value.bool (!r) ≠ Value.notImplemented ∧ Q (.bool (!r)) s from ⟨(fun x => nomatch x), h⟩⟩ hu
end Mine
namespace Mine
open PySem PySem.W PySem.Calls PyProof.Rows PySem.SeqAt
noncomputable section
section
variable {S : Stage} {n : Nat} {sc : Scope} {ns : List (Option PySem.Str)}
variable {G : Led} {ad : List Addr} {s : Shared}
theorem lists_ne {A : Around} {f : V → V → B3} (hf : ∀ v w cv cw b, f v w = b3 b → Rv S G ad v cv → Rv S G ad w cw → EqAt A.in1 s cv cw b) {xs ys : List V} {vs ws : List Value} {r : Bool} {a b : Addr} {k j : Nat} (h : eqT f xs ys = b3 r) (h1 : Rvs S G ad xs vs) (h2 : Rvs S G ad ys ws)
 (ha : s.heap.get? a = some (lstOf vs k)) (hb : s.heap.get? b = some (lstOf ws j)) (hu : A.units < cLine) : RcNeAt A s (.ref a) (.ref b) (!r) := by
 have la : s.heap.IsList a vs.toArray := ⟨_, ha, rfl, _, rfl⟩
 have lb : s.heap.IsList b ws.toArray := ⟨_, hb, rfl, _, rfl⟩
 have h : (Bool.rec .no (allP f xs ys) (Nat.beq (len xs) (len ys)) : B3) = b3 r := h
 rw [len_eq, len_eq, ← h1.length, ← h2.length, BT.beq_eq] at h
 by_cases q : vs.length = ws.length
 · rw [decide_eq_true q] at h
   obtain ⟨e, e1, e2⟩ := allP_all hf h1 h2 h q
   rw [e2]
   have := RcNeAt.lists (e := e) la lb (by simpa using q) hu fun i i1 i2 => by
    have := e1 i (by simpa using i1) (by simpa using i2)
    simpa using this
   simpa using this
 · rw [decide_eq_false q] at h
   rw [b3_no h]
   exact RcNeAt.lists_lengths la lb (by simpa using q) hu
theorem ne_one (hs : Stands S G s) (n : Nat) (A : Around) (v w : V) (cv cw : Value) (b : Bool) (h : eqV (n + 1) v w = b3 b) (ra : Rv S G ad v cv) (rb : Rv S G ad w cw) (hu : A.units + n + 1 < cLine) : RcNeAt A s cv cw (!b) := by
 have hu0 : A.units < cLine := by omega
 have ih : ∀ v w cv cw b, eqV n v w = b3 b → Rv S G ad v cv → Rv S G ad w cw → EqAt A.in1 s cv cw b := fun v w cv cw b h ra rb => (eq_both hs n A.in1 v w cv cw b h ra rb (by show A.units + 1 + n < _; omega)).2
 cases ra with
 | none =>
  cases rb with
  | none => rw [b3_yes h]; exact RcNeAt.none_none
  | int i t => rw [b3_no h]; exact RcNeAt.none_int i t
  | str k t => rw [b3_no h]; exact RcNeAt.none_str _ t
  | tup l vs a k o r => rw [b3_no h]; exact RcNeAt.none_tuple ⟨_, hs _ _ o, rfl, _, rfl⟩ hu0
  | _ => cases b <;> cases h
 | bool x =>
  cases rb with
  | bool y =>
   have h : b3 (eqB x y) = b3 b := h
   have e : eqB x y = (x == y) := by cases x <;> cases y <;> rfl
   rw [← b3_inj h, e]
   exact RcNeAt.bool_bool x y
  | _ => cases b <;> cases h
 | int i t =>
  cases rb with
  | none => rw [b3_no h]; exact RcNeAt.int_none i t
  | int j u =>
   have h : b3 (eqI i j) = b3 b := h
   rw [← b3_inj h, eqI_eq]; exact RcNeAt.int_int i t j u
  | str k u => rw [b3_no h]; exact RcNeAt.int_str i t _ u
  | _ => cases b <;> cases h
 | str k t =>
  cases rb with
  | none => rw [b3_no h]; exact RcNeAt.str_none _ t
  | int j u => rw [b3_no h]; exact RcNeAt.str_int _ t j u
  | str j u =>
   have h : b3 (Nat.beq k j) = b3 b := h
   have e : (S.nm k == S.nm j) = Nat.beq k j := by
    rw [BT.beq_eq]
    by_cases q : k = j
    · subst q; simp
    · rw [decide_eq_false q]
      cases z : (S.nm k == S.nm j) with
      | false => rfl
      | true => exact absurd (S.inj _ _ (eq_of_beq z)) q
   rw [← b3_inj h, ← e]; exact RcNeAt.str_str _ t _ u
  | _ => exact (b3_er h).elim
 | bytes l bb t e =>
  cases rb with
  | bytes l' cc u e' =>
   have h0 := h
   have h : eqNs l l' = b3 b := h
   rw [eqNs_eq] at h
   have e2 : (bb.toList == cc.toList) = b := by
    rw [← b3_inj h]
    by_cases q : bb.toList = cc.toList
    · rw [q]; rw [decide_eq_true (by rw [← e, ← e', q])]; simp
    · rw [beq_eq_false_iff_ne.mpr q]
      symm
      apply decide_eq_false
      intro z
      rw [← e, ← e'] at z
      have inj : ∀ (p q : List UInt8), p.map UInt8.toNat = q.map UInt8.toNat → p = q := by
       intro p
       induction p with
       | nil => intro q h; cases q with | nil => rfl | cons _ _ => cases h
       | cons x p ihp =>
        intro q h
        cases q with
        | nil => cases h
        | cons y q =>
         rw [List.map_cons, List.map_cons] at h
         injection h with h1 h2
         rw [UInt8.toNat_inj.mp h1, ihp q h2]
      exact q (inj _ _ z)
   intro prog w E Q hq
   refine PySem.W.ne_bytes ?_
   rw [show (bb.toList != cc.toList) = !(bb.toList == cc.toList) from rfl, e2]; exact hq
  | _ => exact (b3_er h).elim
 | tup l vs x k o r =>
  cases rb with
  | tup l' ws y j p t =>
   have h : eqL (eqV n) l l' = b3 b := h
   have L := eqL_lex ih r t h
   have e1 : (vs.toArray.size == ws.toArray.size) = (vs.length == ws.length) := by simp
   exact RcNeAt.lex (hs _ _ o) (hs _ _ p) hu0 (by rw [e1]; exact L)
  | none => rw [b3_no h]; exact RcNeAt.tuple_none ⟨_, hs _ _ o, rfl, _, rfl⟩ hu0
  | _ => exact (b3_er h).elim
 | lst l vs x k o r =>
  cases rb with
  | lst l' ws y j p t =>
   have h : eqT (eqV n) l l' = b3 b := h
   exact lists_ne ih h r t (hs _ _ o) (hs _ _ p) hu0
  | _ => exact (b3_er h).elim
 | dct _ _ _ _ _ _ => exact (b3_er h).elim
 | ref _ _ _ => exact (b3_er h).elim
def isEq : C4 → Bool
 | .eq => true
 | _ => false
def opR : CmpOp → C4 → Bool
 | .Lt, .lt => true
 | .LtE, .lt => true
 | .LtE, .eq => true
 | .Gt, .gt => true
 | .GtE, .gt => true
 | .GtE, .eq => true
 | _, _ => false
def ordOp (op : CmpOp) : Prop := op = .Lt ∨ op = .LtE ∨ op = .Gt ∨ op = .GtE
def opL : CmpOp → Nat → Nat → Bool
 | .Lt, m, n => decide (m < n)
 | .LtE, m, n => decide (m ≤ n)
 | .Gt, m, n => decide (m > n)
 | .GtE, m, n => decide (m ≥ n)
 | _, _, _ => false
theorem opL_succ {op : CmpOp} (m n : Nat) : opL op (m + 1) (n + 1) = opL op m n := by
 cases op <;> simp [opL]
theorem cmpI_cases (i j : Int) : (cmpI i j = .eq ∧ i = j) ∨ (cmpI i j = .lt ∧ i < j) ∨ (cmpI i j = .gt ∧ j < i) := by
 have e : cmpI i j = Bool.rec (Bool.rec .gt .lt (ltI i j)) .eq (eqI i j) := rfl
 rw [e, eqI_eq, ltI_eq]
 by_cases h : i = j
 · subst h; left; simp
 · have h1 : (i == j) = false := by simpa using h
   rw [h1]
   by_cases q : i < j
   · rw [decide_eq_true q]; exact .inr (.inl ⟨rfl, q⟩)
   · rw [decide_eq_false q]; exact .inr (.inr ⟨rfl, by omega⟩)
theorem cmpL_same {f : V → V → C4} (hf : ∀ v w c, Rv S G ad v c → Rv S G ad w c → f v w = .eq ∨ f v w = .er) : ∀ {xs ys : List V} {cs : List Value}, Rvs S G ad xs cs → Rvs S G ad ys cs → cmpL f xs ys = .eq ∨ cmpL f xs ys = .er := by
 intro xs ys cs r
 revert ys
 apply r.ind
 · intro ys t
   cases t
   exact .inl rfl
 · intro x c xs cs a _ ih ys t
   cases t with
   | @cons y _ ys _ b t =>
    show (C4.rec .lt (cmpL f xs ys) .gt .er (f x y) : C4) = .eq ∨ (C4.rec .lt (cmpL f xs ys) .gt .er (f x y) : C4) = .er
    rcases hf _ _ _ a b with q | q
    · rw [q]; exact ih t
    · rw [q]; exact .inr rfl
theorem cmpV_same (hs : Stands S G s) : ∀ (n : Nat) (v w : V) (c : Value), Rv S G ad v c → Rv S G ad w c → cmpV n v w = .eq ∨ cmpV n v w = .er
 | 0, _, _, _, _, _ => .inr rfl
 | n + 1, v, w, c, a, b => by
  cases a with
  | int i t =>
   cases b
   show cmpI i i = _ ∨ _
   rcases cmpI_cases i i with ⟨h, _⟩ | ⟨_, h⟩ | ⟨_, h⟩
   · exact .inl h
   · omega
   · omega
  | tup l vs x k o r =>
   cases b with
   | tup l' ws _ j p t =>
    have := hs.tup o p
    subst this
    exact cmpL_same (cmpV_same hs n) r t
   | _ => exact .inr rfl
  | none => cases b; exact .inr rfl
  | bool x => cases b; exact .inr rfl
  | str k t =>
   generalize e : Value.str (S.nm k) t = c at b
   cases b <;> exact .inr rfl
  | bytes l bb t e => cases b; exact .inr rfl
  | lst _ _ _ _ _ _ => cases b <;> exact .inr rfl
  | dct _ _ _ _ _ _ => cases b <;> exact .inr rfl
  | ref _ _ _ => cases b <;> exact .inr rfl
theorem cmpL_eqLex {A : Around} {f : V → V → C4} (hf : ∀ v w cv cw, f v w ≠ .er → Rv S G ad v cv → Rv S G ad w cw → EqAt A s cv cw (isEq (f v w))) : ∀ {xs ys : List V} {vs ws : List Value}, Rvs S G ad xs vs → Rvs S G ad ys ws → cmpL f xs ys ≠ .er →
 EqLex A s (vs.length == ws.length) (isEq (cmpL f xs ys)) (vs.zip ws) := by
 intro xs ys vs ws ra
 revert ys ws
 apply ra.ind
 · intro ys ws rb _
   cases rb <;> rfl
 · intro x cx xs cs a _ ih ys ws rb h
   cases rb with
   | nil => rfl
   | @cons y cy ys ds b rb =>
    have e : cmpL f (x :: xs) (y :: ys) = (C4.rec .lt (cmpL f xs ys) .gt .er (f x y) : C4) := rfl
    rw [e] at h ⊢
    have hfx := hf x y cx cy
    cases q : f x y with
    | lt => rw [q] at hfx; exact .inr ⟨hfx (by intro h; cases h) a b, rfl⟩
    | gt => rw [q] at hfx; exact .inr ⟨hfx (by intro h; cases h) a b, rfl⟩
    | er => rw [q] at h; exact absurd rfl h
    | eq =>
     rw [q] at h hfx
     refine .inl ⟨hfx (by intro h; cases h) a b, ?_⟩
     have := ih rb h
     rw [List.length_cons, List.length_cons]
     have e : ∀ m k : Nat, (m + 1 == k + 1) = (m == k) := fun m k => by rw [Bool.eq_iff_iff]; simp
     rw [e]
     exact this
theorem cmpL_lexAt {A : Around} {op : CmpOp} (ho : ordOp op) {f : V → V → C4} (hf : ∀ v w cv cw, f v w ≠ .er → Rv S G ad v cv → Rv S G ad w cw → EqAt A s cv cw (isEq (f v w)) ∧ RcOp A s op cv cw (opR op (f v w))) : ∀ {xs ys : List V} {vs ws : List Value}, Rvs S G ad xs vs → Rvs S G ad ys ws → cmpL f xs ys ≠ .er →
 LexAt A s op (opL op vs.length ws.length) (opR op (cmpL f xs ys)) (vs.zip ws)
 | _, _, _, _, .nil, .nil, _ => by rcases ho with rfl | rfl | rfl | rfl <;> rfl
 | _, _, _, _, .nil, .cons _ _, _ => by rcases ho with rfl | rfl | rfl | rfl <;> simp [LexAt, opL, cmpL, opR]
 | _, _, _, _, .cons _ _, .nil, _ => by rcases ho with rfl | rfl | rfl | rfl <;> simp [LexAt, opL, cmpL, opR]
 | _, _, _, _, .cons (v := x) (c := cx) (l := xs) (cs := cs) a ra, .cons (v := y) (c := cy) (l := ys) (cs := ds) b rb, h => by
  have e : cmpL f (x :: xs) (y :: ys) = (C4.rec .lt (cmpL f xs ys) .gt .er (f x y) : C4) := rfl
  rw [e] at h ⊢
  have hfx := hf x y cx cy
  cases q : f x y with
  | lt =>
   rw [q] at hfx
   obtain ⟨h1, h2⟩ := hfx (by intro h; cases h) a b
   exact .inr ⟨h1, fun prog w E Q hq => h2 prog w E Q hq⟩
  | gt =>
   rw [q] at hfx
   obtain ⟨h1, h2⟩ := hfx (by intro h; cases h) a b
   exact .inr ⟨h1, fun prog w E Q hq => h2 prog w E Q hq⟩
  | er => rw [q] at h; exact absurd rfl h
  | eq =>
   rw [q] at h hfx
   obtain ⟨h1, h2⟩ := hfx (by intro h; cases h) a b
   refine .inl ⟨h1, ?_⟩
   have := cmpL_lexAt ho hf ra rb h
   rw [List.length_cons, List.length_cons, opL_succ]
   exact this
theorem int_le {prog : Program} {w : World} {A : Around} {E Q : Value → Shared → Prop} {a b : Int} {t u : Tok} (h : Q (.bool (decide (a ≤ b))) s) : wpAny (model prog w) A (richCompare .LtE (.int a t) (.int b u)) Q E s :=
 compareOp_gives (op := .LtE) (typeIs_int s a t) (typeIs_int s b u) F.slot_int_le F.entry_int_le (F.args_int_le_2 _ _) (gives_int_le a b t u) (fun x => nomatch x) h
theorem int_ge {prog : Program} {w : World} {A : Around} {E Q : Value → Shared → Prop} {a b : Int} {t u : Tok} (h : Q (.bool (decide (b ≤ a))) s) : wpAny (model prog w) A (richCompare .GtE (.int a t) (.int b u)) Q E s :=
 compareOp_gives (op := .GtE) (typeIs_int s a t) (typeIs_int s b u) F.slot_int_ge F.entry_int_ge (F.args_int_ge_2 _ _) (gives_int_ge a b t u) (fun x => nomatch x) h
theorem cmp_both (hs : Stands S G s) : ∀ (n : Nat) (A : Around) (v w : V) (cv cw : Value), cmpV n v w ≠ .er → Rv S G ad v cv → Rv S G ad w cw → A.units + n < cLine → EqAt A s cv cw (isEq (cmpV n v w)) ∧ ∀ op, ordOp op → RcOp A s op cv cw (opR op (cmpV n v w))
 | 0, _, _, _, _, _, h, _, _, _ => absurd rfl h
 | n + 1, A, v, w, cv, cw, h, ra, rb, hu => by
  have hu0 : A.units < cLine := by omega
  have ih : ∀ v w cv cw, cmpV n v w ≠ .er → Rv S G ad v cv → Rv S G ad w cw → EqAt A.in1 s cv cw (isEq (cmpV n v w)) ∧ ∀ op, ordOp op → RcOp A.in1 s op cv cw (opR op (cmpV n v w)) := fun v w cv cw h ra rb => cmp_both hs n A.in1 v w cv cw h ra rb (by show A.units + 1 + n < _; omega)
  cases ra with
  | int i t =>
   cases rb with
   | int j u =>
    have e : cmpV (n + 1) (.int i) (.int j) = cmpI i j := rfl
    rw [e]
    refine ⟨?_, fun op ho prog w E Q hq => ?_⟩
    · have : isEq (cmpI i j) = (i == j) := by
       rcases cmpI_cases i j with ⟨h, q⟩ | ⟨h, q⟩ | ⟨h, q⟩ <;> rw [h]
       · subst q; simp [isEq]
       · have : (i == j) = false := by rw [beq_eq_false_iff_ne]; omega
         rw [this]; rfl
       · have : (i == j) = false := by rw [beq_eq_false_iff_ne]; omega
         rw [this]; rfl
      rw [this]; exact EqAt.int_int i t j u
    · rcases ho with rfl | rfl | rfl | rfl
      · refine PyProof.Rows.lt_int (Q := Q) (E := E) (A := A) (prog := prog) (w := w) (t := t) (u := u) ?_
        rw [show decide (i < j) = opR .Lt (cmpI i j) by rcases cmpI_cases i j with ⟨h, q⟩ | ⟨h, q⟩ | ⟨h, q⟩ <;> rw [h] <;> simp [opR] <;> omega]; exact hq
      · refine int_le (t := t) (u := u) ?_
        rw [show decide (i ≤ j) = opR .LtE (cmpI i j) by rcases cmpI_cases i j with ⟨h, q⟩ | ⟨h, q⟩ | ⟨h, q⟩ <;> rw [h] <;> simp [opR] <;> omega]; exact hq
      · refine PyProof.Rows.gt_int (Q := Q) (E := E) (A := A) (prog := prog) (w := w) (t := t) (u := u) ?_
        rw [show decide (j < i) = opR .Gt (cmpI i j) by rcases cmpI_cases i j with ⟨h, q⟩ | ⟨h, q⟩ | ⟨h, q⟩ <;> rw [h] <;> simp [opR] <;> omega]; exact hq
      · refine int_ge (t := t) (u := u) ?_
        rw [show decide (j ≤ i) = opR .GtE (cmpI i j) by rcases cmpI_cases i j with ⟨h, q⟩ | ⟨h, q⟩ | ⟨h, q⟩ <;> rw [h] <;> simp [opR] <;> omega]; exact hq
   | _ => exact absurd rfl h
  | tup l vs x k o r =>
   cases rb with
   | tup l' ws y j p t =>
    have e : cmpV (n + 1) (.tup l) (.tup l') = cmpL (cmpV n) l l' := rfl
    have h0 := h
    rw [e] at h ⊢
    have L := cmpL_eqLex (fun v w cv cw h a b => (ih v w cv cw h a b).1) r t h
    have e1 : (vs.toArray.size == ws.toArray.size) = (vs.length == ws.length) := by simp
    have rc : RcAt A s (.ref x) (.ref y) (isEq (cmpL (cmpV n) l l')) := RcAt.lex (hs _ _ o) (hs _ _ p) hu0 (by rw [e1]; exact L)
    refine ⟨?_, fun op ho => ?_⟩
    · by_cases q : x = y
      · subst q
        have : isEq (cmpL (cmpV n) l l') = true := by
         rcases cmpV_same hs (n + 1) _ _ _ (.tup l vs x k o r) (.tup l' ws x j p t) with q | q
         · rw [e] at q; rw [q]; rfl
         · exact absurd q h0
        rw [this]; exact EqAt.same _
      · exact EqAt.of_refs q rc
    · have M := cmpL_lexAt ho (fun v w cv cw h a b => ⟨(ih v w cv cw h a b).1, (ih v w cv cw h a b).2 op ho⟩) r t h
      rcases ho with rfl | rfl | rfl | rfl
      · exact RcOp.lt (hs _ _ o) (hs _ _ p) hu0 (by simpa [opL] using M)
      · exact RcOp.le (hs _ _ o) (hs _ _ p) hu0 (by simpa [opL] using M)
      · exact RcOp.gt (hs _ _ o) (hs _ _ p) hu0 (by simpa [opL] using M)
      · exact RcOp.ge (hs _ _ o) (hs _ _ p) hu0 (by simpa [opL] using M)
   | _ => exact absurd rfl h
  | none => exact absurd rfl h
  | bool _ => exact absurd rfl h
  | str _ _ => exact absurd rfl h
  | bytes _ _ _ _ => exact absurd rfl h
  | lst _ _ _ _ _ _ => exact absurd rfl h
  | dct _ _ _ _ _ _ => exact absurd rfl h
  | ref _ _ _ => exact absurd rfl h
def opOf : Cmp → CmpOp
 | .eq => .Eq
 | .ne => .NotEq
 | .lt => .Lt
 | .le => .LtE
 | .gt => .Gt
 | .ge => .GtE
variable {env : PySem.Env} {h₀ : Heap} {m : PySem.Str → Option Value} {D C : Led} {ρ : Env} {st : St}
theorem deref_ok (R : Rel S ns env h₀ m G D C ad ρ st s) {v : V} {cv : Value} (r : Rv S G ad v cv) : (deref st v = v) ∨ ∃ l vs a k, deref st v = .lst l ∧ cv = .ref a ∧ s.heap.get? a = some (lstOf vs k) ∧ Rvs S G ad l vs := by
 cases r with
 | ref i a ea =>
  obtain ⟨t, kk⟩ := st
  have e : deref ⟨t, kk⟩ (.ref i) = OL.rec (.ref i) (fun o => O.rec (fun zz zz => .ref i) (fun l => .lst l) (fun zz => .ref i) o) (getT t i) := rfl
  rw [e, getT_eq]
  cases q : atT t i with
  | none => exact .inl rfl
  | some o =>
   obtain ⟨a', d, ob, x1, x2, x3⟩ := R.hp.2.2 i o q
   rw [ea] at x1; cases x1
   cases o with
   | inst c f => exact .inl rfl
   | dict l => exact .inl rfl
   | list l =>
    cases x3 with
    | list _ vs _ k y => exact .inr ⟨l, vs, a, k, rfl, rfl, R.nw.get (List.mem_append_right _ (List.mem_append_left _ (List.mem_of_getElem? x2))), y⟩
 | _ => exact .inl rfl
theorem Rel.stands (R : Rel S ns env h₀ m G D C ad ρ st s) (F : Fix S sc ns env h₀) : Stands S G s := fun zz zz h => R.obs F h
theorem eq_top {A : Around} (R : Rel S ns env h₀ m G D C ad ρ st s) (F : Fix S sc ns env h₀) (hA : Room n A) {v w : V} {cv cw : Value} {b : Bool} (ra : Rv S G ad v cv) (rb : Rv S G ad w cw) (h : eqV 6 (deref st v) (deref st w) = b3 b) : RcAt A s cv cw b ∧ RcNeAt A s cv cw (!b) := by
 have hs := R.stands F
 have hu : A.units + 80 < cLine := by have := hA.un; omega
 have hu0 : A.units < cLine := by omega
 have ih : ∀ v w cv cw b, eqV 5 v w = b3 b → Rv S G ad v cv → Rv S G ad w cw → EqAt A.in1 s cv cw b := fun v w cv cw b h ra rb => (eq_both hs 5 A.in1 v w cv cw b h ra rb (by show A.units + 1 + 5 < _; omega)).2
 have lists : ∀ {l l' vs ws a a' k k'}, eqV 6 (.lst l) (.lst l') = b3 b → Rvs S G ad l vs → Rvs S G ad l' ws → s.heap.get? a = some (lstOf vs k) → s.heap.get? a' = some (lstOf ws k') → RcAt A s (.ref a) (.ref a') b ∧ RcNeAt A s (.ref a) (.ref a') (!b) := fun h r1 r2 x1 x2 =>
  ⟨lists_eq ih (show eqT (eqV 5) _ _ = b3 b from h) r1 r2 x1 x2 hu0, lists_ne ih (show eqT (eqV 5) _ _ = b3 b from h) r1 r2 x1 x2 hu0⟩
 rcases deref_ok R ra with e1 | ⟨l, vs, a, k, e1, rfl, x1, r1⟩
 · rcases deref_ok R rb with e2 | ⟨l', ws, a', k', e2, rfl, x2, r2⟩
   · rw [e1, e2] at h
     exact ⟨(eq_both hs 6 A v w cv cw b h ra rb (by omega)).1, ne_one hs 5 A v w cv cw b h ra rb (by omega)⟩
   · rw [e1, e2] at h
     cases ra with
     | lst l vs a k o r => exact lists h r r2 (hs _ _ o) x2
     | _ => exact (b3_er h).elim
 · rcases deref_ok R rb with e2 | ⟨l', ws, a', k', e2, rfl, x2, r2⟩
   · rw [e1, e2] at h
     cases rb with
     | lst l' ws a' k' o r => exact lists h r1 r x1 (hs _ _ o)
     | _ => exact (b3_er h).elim
   · rw [e1, e2] at h
     exact lists h r1 r2 x1 x2
theorem rB_ok {b : B3} {s s' : St} {r : Bool} (h : rB b s = .ok r s') : b = b3 r ∧ s' = s := by cases b <;> cases h <;> exact ⟨rfl, rfl⟩
theorem rN_ok {b : B3} {s s' : St} {r : Bool} (h : rN b s = .ok r s') : b = b3 (!r) ∧ s' = s := by cases b <;> cases h <;> exact ⟨rfl, rfl⟩
theorem cmp_rule {A : Around} {E Q : Value → Shared → Prop} {op : Cmp} {x y : V} {cx cy : Value} {b : Bool} {st' : St} (hA : Room n A) (F : Fix S sc ns env h₀) (R : Rel S ns env h₀ m G D C ad ρ st s) (ra : Rv S G ad x cx) (rb : Rv S G ad y cy) (h : cmpS op x y st = .ok b st') :
 st' = st ∧ (Q (.bool b) s → wpAny (model S.prog S.w) A (compareOp (opOf op) cx cy) Q E s) := by
 have hs := R.stands F
 have hu : A.units + 80 < cLine := by have := hA.un; omega
 have ord : ∀ (o : CmpOp) (ho : ordOp o), cmpV 6 x y ≠ .er → RcOp A s o cx cy (opR o (cmpV 6 x y)) := fun o ho hne => (cmp_both hs 6 A x y cx cy hne ra rb (by omega)).2 o ho
 cases op with
 | eq =>
  obtain ⟨h1, rfl⟩ := rB_ok (show rB (eqV 6 (deref st x) (deref st y)) st = .ok b st' from h)
  exact ⟨rfl, fun q => (eq_top R F hA ra rb h1).1 _ _ _ _ q⟩
 | ne =>
  obtain ⟨h1, rfl⟩ := rN_ok (show rN (eqV 6 (deref st x) (deref st y)) st = .ok b st' from h)
  refine ⟨rfl, fun q => (eq_top R F hA ra rb h1).2 _ _ _ _ ?_⟩
  rw [Bool.not_not]; exact q
 | lt =>
  have h : rC true false false (cmpV 6 x y) st = .ok b st' := h
  have o1 := ord .Lt (.inl rfl)
  cases q : cmpV 6 x y <;> rw [q] at h o1 <;> cases h <;> exact ⟨rfl, fun z => o1 (by intro h; cases h) _ _ _ _ z⟩
 | le =>
  have h : rC true true false (cmpV 6 x y) st = .ok b st' := h
  have o1 := ord .LtE (.inr (.inl rfl))
  cases q : cmpV 6 x y <;> rw [q] at h o1 <;> cases h <;> exact ⟨rfl, fun z => o1 (by intro h; cases h) _ _ _ _ z⟩
 | gt =>
  have h : rC false false true (cmpV 6 x y) st = .ok b st' := h
  have o1 := ord .Gt (.inr (.inr (.inl rfl)))
  cases q : cmpV 6 x y <;> rw [q] at h o1 <;> cases h <;> exact ⟨rfl, fun z => o1 (by intro h; cases h) _ _ _ _ z⟩
 | ge =>
  have h : rC false true true (cmpV 6 x y) st = .ok b st' := h
  have o1 := ord .GtE (.inr (.inr (.inr rfl)))
  cases q : cmpV 6 x y <;> rw [q] at h o1 <;> cases h <;> exact ⟨rfl, fun z => o1 (by intro h; cases h) _ _ _ _ z⟩
theorem ST.cmp {l r : PySem.Expr} {op : Cmp} {o : CmpOp} {pos : Pos} {a b : DE} (ha : SE S n sc ns l a) (hb : SE S n sc ns r b) (ho : opOf op = o := by rfl) (hm : behindInMarks o r = false := by with_unfolding_all rfl) : ST S n sc ns (.Compare l [o] [r] pos) (tcmp op a b) := ⟨fun hA F R h q => by
 obtain ⟨x, s1, e1, h1⟩ := R_ok h
 obtain ⟨y, s2, e2, h2⟩ := R_ok h1
 subst ho
 refine wpAny_isTrue_Compare1 (ha.go hA F R e1 fun s' G' D' ad' cx R1 g1 p1 rx => hb.go hA F R1 e2 fun s'' G'' D'' ad'' cy R2 g2 p2 ry => ?_) hm
 have e := (cmp_rule (E := fun zz zz => True) (Q := fun zz zz => True) hA F R2 (rx.mono g2 p2) ry h2).1
 subst e
 exact (cmp_rule hA F R2 (rx.mono g2 p2) ry h2).2 (wpAny_truthy_bool (q _ _ _ _ R2 (List.Subset.trans g1 g2) (p1.trans p2)))⟩
theorem SE.cmp {l r : PySem.Expr} {op : Cmp} {o : CmpOp} {pos : Pos} {a b : DE} (ha : SE S n sc ns l a) (hb : SE S n sc ns r b) (ho : opOf op = o := by rfl) (hm : behindInMarks o r = false := by with_unfolding_all rfl) : SE S n sc ns (.Compare l [o] [r] pos) (vT (tcmp op a b)) := ⟨fun hA F R h q => by
 obtain ⟨t, s0, e0, h0⟩ := R_ok h
 cases h0
 obtain ⟨x, s1, e1, h1⟩ := R_ok e0
 obtain ⟨y, s2, e2, h2⟩ := R_ok h1
 subst ho
 refine wpAny_Compare1 (ha.go hA F R e1 fun s' G' D' ad' cx R1 g1 p1 rx => hb.go hA F R1 e2 fun s'' G'' D'' ad'' cy R2 g2 p2 ry => ?_) hm
 have e := (cmp_rule (E := fun zz zz => True) (Q := fun zz zz => True) hA F R2 (rx.mono g2 p2) ry h2).1
 subst e
 exact (cmp_rule hA F R2 (rx.mono g2 p2) ry h2).2 (q _ _ _ _ _ R2 (List.Subset.trans g1 g2) (p1.trans p2) (.bool _))⟩
theorem ST.cmp3 {l r1 r2 : PySem.Expr} {o1 o2 : Cmp} {p1 p2 : CmpOp} {pos : Pos} {a b c : DE} (ha : SE S n sc ns l a) (hb : SE S n sc ns r1 b) (hc : SE S n sc ns r2 c) (h1 : opOf o1 = p1 := by rfl) (h2 : opOf o2 = p2 := by rfl) (hm : lastMarks [p1, p2] [r1, r2] = false := by with_unfolding_all rfl) :
 ST S n sc ns (.Compare l [p1, p2] [r1, r2] pos) (tcmp3 o1 o2 a b c) := ⟨fun hA F R h q => by
 obtain ⟨x, s1, e1, k1⟩ := R_ok h
 obtain ⟨y, s2, e2, k2⟩ := R_ok k1
 obtain ⟨t, s3, e3, k3⟩ := R_ok k2
 subst h1; subst h2
 refine isTrue_chain (ha.go hA F R e1 fun s' G' D' ad' cx R1 g1 q1 rx => ?_) hm
 unfold testChain
 refine wpAny_bind (wpAny_holding (hb.go hA F R1 e2 fun s'' G'' D'' ad'' cy R2 g2 q2 ry => ?_))
 refine wpAny_bind (wpAny_standAt ?_)
 have e := (cmp_rule (E := fun zz zz => True) (Q := fun zz zz => True) hA F R2 (rx.mono g2 q2) ry e3).1
 subst e
 refine wpAny_bind (wpAny_holding ((cmp_rule hA F R2 (rx.mono g2 q2) ry e3).2 ?_))
 refine wpAny_bind (wpAny_release ?_)
 refine wpAny_bind (wpAny_holding (wpAny_truthy_bool ?_))
 cases t with
 | false =>
  cases k3
  exact wpAny_pure (q _ _ _ _ R2 (List.Subset.trans g1 g2) (q1.trans q2))
 | true =>
  obtain ⟨z, s4, e4, k4⟩ := R_ok k3
  show wpAny _ _ (testChain pos cy [opOf o2] [eval r2 _]) _ _ _
  unfold testChain
  refine wpAny_bind (wpAny_holding (hc.go hA F R2 e4 fun s3' G3 D3 ad3 cz R3 g3 q3 rz => ?_))
  refine wpAny_bind (wpAny_standAt ?_)
  have e := (cmp_rule (E := fun zz zz => True) (Q := fun zz zz => True) hA F R3 (ry.mono g3 q3) rz k4).1
  subst e
  unfold operate
  refine wpAny_bind (wpAny_bind (wpAny_holding ((cmp_rule hA F R3 (ry.mono g3 q3) rz k4).2 ?_)))
  refine wpAny_bind (wpAny_release (wpAny_pure ?_))
  exact wpAny_holding (wpAny_truthy_bool (q _ _ _ _ R3 (List.Subset.trans g1 (List.Subset.trans g2 g3)) (q1.trans (q2.trans q3))))⟩
end
end
end Mine
end
section
namespace Mine
open PySem PySem.SeqAt
open PySem PyProof
open MeetsSeq MeetsSeq2 MeetsSeq3 SeqRoads2
def InLex (A : Around) (s : Shared) (x : Value) (r : Bool) : List Value → Prop
 | [] => r = false
 | y :: rest => (EqAt A s y x true ∧ r = true) ∨ (EqAt A s y x false ∧ InLex A s x r rest)
theorem tuple_inLex (l : Addr) (items : Array Value) (n : Nat) (x : Value) (r : Bool) :
 Meets (Builtin.«tuple.__contains__» ⟨[.ref l, x], []⟩)
  (fun A R s => s.heap.get? l = some { cls := .type "tuple", data := .seq items n } ∧ InLex A.in1 s x r items.toList ∧ R (.ok (.ret (.bool r))) s) :=
 .of_wp fun prog w A R s h => by
  obtain ⟨hp, g, d, tk, os⟩ := s; obtain ⟨hl, he, h⟩ := h
  wp_walk using wpAny_loadPart' hl, wpAny_forIn_array _ (fun rest b s' => b.1 = none ∧ s' = ⟨hp, g, d, tk, os⟩ ∧ InLex A.in1 ⟨hp, g, d, tk, os⟩ x r rest) _
  case turn =>
   rintro y rest b s' ⟨hb, rfl, hx⟩
   rcases hx with ⟨h1, rfl⟩ | ⟨h1, h2⟩
   · refine wpAny_bind (h1 prog w _ _ ?_)
     wp_walk
     exact ⟨_, rfl, h⟩
   · refine wpAny_bind (h1 prog w _ _ ?_)
     wp_walk
     exact ⟨rfl, rfl, h2⟩
  case fin =>
   rintro ⟨b1, b2⟩ s' ⟨hb, rfl, hz⟩
   simp only at hb
   subst hb
   have hz : r = false := hz
   subst hz
   wp_walk
   exact ⟨_, rfl, h⟩
  case h =>
   exact ⟨rfl, rfl, he⟩
theorem in_lex {prog : Program} {w : World} {A : Around} {E : Value → Shared → Prop} {s : Shared} {l : Addr} {items : Array Value} {n : Nat} {x : Value} {r : Bool} {Q : Value → Shared → Prop} (hl : s.heap.get? l = some { cls := .type "tuple", data := .seq items n }) (he : InLex A.in1 s x r items.toList)
 (h : Q (.bool r) s) : wpAny (model prog w) A (compareOp .In x (.ref l)) Q E s :=
 in_meets ⟨_, hl, rfl⟩ F.slot_tuple_contains F.entry_tuple_contains (F.args_tuple_contains_2 _ _) (tuple_inLex l items n x r) ⟨hl, he, _, rfl, h⟩
end Mine
namespace Mine
open PySem PySem.W PySem.Calls PyProof.Rows PySem.SeqAt
noncomputable section
section
variable {S : Stage} {n : Nat} {sc : Scope} {ns : List (Option PySem.Str)}
theorem tisN_ok {a : DE} {ρ : Env} {st st' : St} {b : Bool} (h : tisN a ρ st = .ok b st') : ∃ v, a ρ st = .ok v st' ∧ ((v = .none ∧ b = true) ∨ (v ≠ .none ∧ b = false)) := by
 obtain ⟨v, s1, e1, h1⟩ := R_ok h
 cases v <;> cases h1
 · exact ⟨_, e1, .inl ⟨rfl, rfl⟩⟩
 all_goals exact ⟨_, e1, .inr ⟨(by intro h; cases h), rfl⟩⟩
theorem Rv.isNone {G : Led} {ad : List Addr} {v : V} {cv : Value} (r : Rv S G ad v cv) {b : Bool} (h : (v = .none ∧ b = true) ∨ (v ≠ .none ∧ b = false)) : (cv == Value.none) = b := by
 rcases h with ⟨rfl, rfl⟩ | ⟨h, rfl⟩
 · cases r; rfl
 · cases r <;> first | exact absurd rfl h | rfl
theorem ST.isN {l : PySem.Expr} {k : Nat} {p pos : Pos} {a : DE} (ha : SE S n sc ns l a) : ST S n sc ns (.Compare l [.Is] [.Constant .none k p] pos) (tisN a) := ⟨fun hA F R h q => by
 obtain ⟨v, e1, hv⟩ := tisN_ok h
 refine wpAny_isTrue_Compare1 (ha.go hA F R e1 fun s' G' D' ad' cv R1 g1 p1 r => Constant_none (is_none_gen ?_))
 rw [r.isNone hv]
 exact wpAny_truthy_bool (q _ _ _ _ R1 g1 p1)⟩
theorem ST.isntN {l : PySem.Expr} {k : Nat} {p pos : Pos} {a : DE} (ha : SE S n sc ns l a) : ST S n sc ns (.Compare l [.IsNot] [.Constant .none k p] pos) (tnot (tisN a)) := ⟨fun hA F R h q => by
 obtain ⟨b, s1, e0, h0⟩ := R_ok h
 obtain ⟨v, e1, hv⟩ := tisN_ok e0
 have e2 : Bool.rec true false b = (!b) := by cases b <;> rfl
 cases h0
 rw [e2] at q
 refine wpAny_isTrue_Compare1 (ha.go hA F R e1 fun s' G' D' ad' cv R1 g1 p1 r => Constant_none (isnot_none_gen ?_))
 rw [r.isNone hv]
 exact wpAny_truthy_bool (q _ _ _ _ R1 g1 p1)⟩
theorem SE.isntN {l : PySem.Expr} {k : Nat} {p pos : Pos} {a : DE} (ha : SE S n sc ns l a) : SE S n sc ns (.Compare l [.IsNot] [.Constant .none k p] pos) (vT (tnot (tisN a))) := ⟨fun hA F R h q => by
 obtain ⟨c, s0, e9, h9⟩ := R_ok h
 cases h9
 obtain ⟨b, s1, e0, h0⟩ := R_ok e9
 obtain ⟨v, e1, hv⟩ := tisN_ok e0
 have e2 : Bool.rec true false b = (!b) := by cases b <;> rfl
 cases h0
 rw [e2] at q
 refine wpAny_Compare1 (ha.go hA F R e1 fun s' G' D' ad' cv R1 g1 p1 r => Constant_none (isnot_none_gen ?_))
 rw [r.isNone hv]
 exact q _ _ _ _ _ R1 g1 p1 (.bool _)⟩
variable {G : Led} {ad : List Addr} {s : Shared}
theorem likeK_int {a : V} {i : Int} (h : likeK a (.int i) = true) : ∃ j, a = .int j := by
 cases a with
 | int j => exact ⟨j, rfl⟩
 | _ => cases h
theorem likeK_str {a : V} {i : Nat} (h : likeK a (.str i) = true) : ∃ j, a = .str j := by
 cases a with
 | str j => exact ⟨j, rfl⟩
 | _ => cases h
theorem sameK_cons {k a v : V} {l : List (V × V)} (h : sameK k ((a, v) :: l) = true) : likeK a k = true ∧ sameK k l = true := by
 have h : (Bool.rec false (sameK k l) (likeK a k) : Bool) = true := h
 cases q : likeK a k with
 | true => rw [q] at h; exact ⟨rfl, h⟩
 | false => rw [q] at h; cases h
def Got (S : Stage) (G : Led) (ad : List Addr) (o : OL V) (c : Option Value) : Prop := match o with
 | .at v => ∃ cv, c = some cv ∧ Rv S G ad v cv
 | .no => c = none
theorem dget_cons {k a v : V} {l : List (V × V)} : dget k ((a, v) :: l) = (Bool.rec (dget k l) (.at v) (keyEq a k) : OL V) := rfl
theorem found_cons {K : Type} {f : K → Value → Bool} {k : K} {e : DictEntry} {es : List DictEntry} : findBy f (e :: es).toArray k = if f k e.key = true then some e.val else findBy f es.toArray k := by
 unfold findBy
 rw [List.find?_toArray, List.find?_toArray, List.find?_cons]
 cases f k e.key <;> simp
theorem dict_int {i : Int} : ∀ {l : List (V × V)} {es : List DictEntry}, Rds S G ad l es → sameK (.int i) l = true → KeysOf (PySem.intKind S.prog S.w) es.toArray ∧ Got S G ad (dget (.int i) l) (findBy (PySem.intKind S.prog S.w).is es.toArray i) := fun r => by
 apply r.ind
 · exact fun zz => ⟨fun zz he => by simp at he, rfl⟩
 · intro a v e l es rk rv r ih h
   obtain ⟨h1, h2⟩ := sameK_cons h
   obtain ⟨j, rfl⟩ := likeK_int h1
   obtain ⟨i1, i2⟩ := ih h2
   cases rk with
   | int _ t cv =>
    refine ⟨fun e he => ?_, ?_⟩
    · rcases (show e = _ ∨ e ∈ es from by simpa using he) with rfl | he
      · exact ⟨j, intKind_is _ _ j t, rfl⟩
      · exact i1 e (by simpa using he)
    · rw [dget_cons, found_cons]
      have e1 : keyEq (.int j) (.int i) = eqI j i := rfl
      have e2 : (PySem.intKind S.prog S.w).is i (.int j t) = (i == j) := by show Value.isInt i (.int j t) = _; unfold Value.isInt; first | rfl | (rw [Bool.eq_iff_iff]; simp; exact eq_comm)
      rw [e1, eqI_eq, e2]
      by_cases q : j = i
      · subst q; simp; exact ⟨cv, rfl, rv⟩
      · have q1 : (j == i) = false := by simpa using q
        have q2 : (i == j) = false := by simpa using Ne.symm q
        rw [q1, q2]; simpa using i2
theorem dict_str {i : Nat} : ∀ {l : List (V × V)} {es : List DictEntry}, Rds S G ad l es → sameK (.str i) l = true → KeysOf (PySem.strKind S.prog S.w) es.toArray ∧ Got S G ad (dget (.str i) l) (findBy (PySem.strKind S.prog S.w).is es.toArray (S.nm i)) := fun r => by
 apply r.ind
 · exact fun zz => ⟨fun zz he => by simp at he, rfl⟩
 · intro a v e l es rk rv r ih h
   obtain ⟨h1, h2⟩ := sameK_cons h
   obtain ⟨j, rfl⟩ := likeK_str h1
   obtain ⟨i1, i2⟩ := ih h2
   cases rk with
   | str _ t cv =>
    refine ⟨fun e he => ?_, ?_⟩
    · rcases (show e = _ ∨ e ∈ es from by simpa using he) with rfl | he
      · exact ⟨S.nm j, strKind_is _ _ _ t, rfl⟩
      · exact i1 e (by simpa using he)
    · rw [dget_cons, found_cons]
      have e1 : keyEq (.str j) (.str i) = Nat.beq j i := rfl
      have e2 : (PySem.strKind S.prog S.w).is (S.nm i) (.str (S.nm j) t) = (S.nm i == S.nm j) := by show Value.isStrOf (S.nm i) (.str (S.nm j) t) = _; unfold Value.isStrOf; first | rfl | (rw [Bool.eq_iff_iff]; simp; exact eq_comm)
      rw [e1, BT.beq_eq, e2]
      by_cases q : j = i
      · subst q; simp; exact ⟨cv, rfl, rv⟩
      · have q2 : (S.nm i == S.nm j) = false := by
         cases z : (S.nm i == S.nm j) with
         | false => rfl
         | true => exact absurd (S.inj _ _ (eq_of_beq z)).symm q
        rw [decide_eq_false q, q2]; simpa using i2
theorem dfind_ok {k : V} {l : List (V × V)} {o : OL V} (h : dfind k l = .at o) : sameK k l = true ∧ o = dget k l := by
 have h : (Bool.rec .no (.at (dget k l)) (sameK k l) : OL (OL V)) = .at o := h
 cases q : sameK k l with
 | true => rw [q] at h; cases h; exact ⟨rfl, rfl⟩
 | false => rw [q] at h; cases h
theorem sameK_kind {k : V} : ∀ {l : List (V × V)}, sameK k l = true → (∃ i, k = .int i) ∨ ∃ i, k = .str i
 | [], h => by
  have h : likeK k k = true := h
  cases k with
  | int i => exact .inl ⟨i, rfl⟩
  | str i => exact .inr ⟨i, rfl⟩
  | _ => cases h
 | (a, v) :: l, h => sameK_kind (sameK_cons h).2
theorem dict_look {P : Prop} {k : V} {ck : Value} {l : List (V × V)} {es : List DictEntry} {o : OL V} {a : Addr} {nn : Nat} (hk : Rv S G ad k ck) (hd : Rds S G ad l es) (h : dfind k l = .at o) (ha : s.heap.get? a = some (dictOf es nn))
 (go : ∀ {K : Type} [DecidableEq K] (knd : PySem.KeyKind S.prog S.w K) (key : K) (f : K → Option Value), knd.is key ck = true → s.heap.MapOf knd a f → Got S G ad o (f key) → P) : P := by
 obtain ⟨h1, rfl⟩ := dfind_ok h
 rcases sameK_kind h1 with ⟨i, rfl⟩ | ⟨i, rfl⟩
 · obtain ⟨k1, k2⟩ := dict_int hd h1
   cases hk with
   | int _ t => exact go (PySem.intKind S.prog S.w) i _ (intKind_is _ _ i t) ⟨_, es.toArray, nn, ha, ⟨rfl, rfl, rfl⟩, rfl, k1, fun zz => rfl⟩ k2
 · obtain ⟨k1, k2⟩ := dict_str hd h1
   cases hk with
   | str _ t => exact go (PySem.strKind S.prog S.w) (S.nm i) _ (strKind_is _ _ _ t) ⟨_, es.toArray, nn, ha, ⟨rfl, rfl, rfl⟩, rfl, k1, fun zz => rfl⟩ k2
theorem getItem_dict {A : Around} {E Q : Value → Shared → Prop} {k v : V} {ck : Value} {l : List (V × V)} {es : List DictEntry} {a : Addr} {nn : Nat} (hk : Rv S G ad k ck) (hd : Rds S G ad l es) (h : dfind k l = .at (.at v)) (ha : s.heap.get? a = some (dictOf es nn))
 (q : ∀ cv, Rv S G ad v cv → Q cv { s with toks := s.toks + 1 }) : wpAny (model S.prog S.w) A (getItem (.ref a) ck) Q E s :=
 dict_look hk hd h ha fun knd key f h1 h2 h3 => by
  obtain ⟨cv, e, r⟩ := h3
  exact wpAny_getItem_of h1 h2 e (q cv r)
theorem in_dict {A : Around} {E Q : Value → Shared → Prop} {k : V} {o : OL V} {ck : Value} {l : List (V × V)} {es : List DictEntry} {a : Addr} {nn : Nat} (hk : Rv S G ad k ck) (hd : Rds S G ad l es) (h : dfind k l = .at o) (ha : s.heap.get? a = some (dictOf es nn)) (lo : (a == sysModules) = false)
 (q : Q (.bool (isAt o)) { s with toks := s.toks + 1 }) : wpAny (model S.prog S.w) A (compareOp .In ck (.ref a)) Q E s :=
 dict_look hk hd h ha fun knd key f h1 h2 h3 => by
  refine wpAny_in_of h1 lo h2 ?_
  have : (f key).isSome = isAt o := by
   cases o with
   | no => rw [show f key = none from h3]; rfl
   | «at» v => obtain ⟨cv, e, r⟩ := h3; rw [e]; rfl
  rw [this]; exact q
theorem nth_eq {α : Type} : ∀ (m : Nat) (l : List α), nth m l = match l[m]? with | some x => .at x | none => .no
 | 0, [] => rfl
 | 0, _ :: _ => rfl
 | m + 1, [] => rfl
 | m + 1, _ :: l => nth_eq m l
theorem nthp_ok {α : Type} {l : List α} {i : Int} {x : α} (h : nthp l i = .at x) : ∃ m : Nat, i = (m : Int) ∧ m ≤ 4096 ∧ l[m]? = some x := by
 cases i with
 | ofNat m =>
  have h : (Bool.rec .no (nth m l) (Nat.ble m 4096) : OL α) = .at x := h
  cases q : Nat.ble m 4096 with
  | false => rw [q] at h; cases h
  | true =>
   rw [q] at h
   have h : nth m l = .at x := h
   rw [nth_eq] at h
   refine ⟨m, rfl, Nat.le_of_ble_eq_true q, ?_⟩
   split at h
   · cases h; assumption
   · cases h
 | negSucc m => cases h
theorem nths_ok {α : Type} {l : List α} {i : Int} {x : α} (h : nths l i = .at x) : -4097 ≤ i ∧ i ≤ 4096 ∧ ∃ j, seqIndex? i l.length = some j ∧ l[j]? = some x := by
 cases i with
 | ofNat m =>
  obtain ⟨m', e, h1, h2⟩ := nthp_ok (l := l) (i := .ofNat m) (x := x) h
  cases e
  refine ⟨by show -4097 ≤ (m : Int); omega, by show (m : Int) ≤ 4096; omega, m, ?_, h2⟩
  have hl : m < l.length := (List.getElem?_eq_some_iff.mp h2).1
  unfold seqIndex?
  have e1 : ¬ ((m : Int) < 0) := by omega
  simp [e1, hl]
 | negSucc m =>
  have h : (Bool.rec .no (Bool.rec .no (nth (Nat.sub (len l) (Nat.succ m)) l) (Nat.ble (Nat.succ m) (len l))) (Nat.ble m 4096) : OL α) = .at x := h
  cases q : Nat.ble m 4096 with
  | false => rw [q] at h; cases h
  | true =>
   rw [q] at h
   cases q2 : Nat.ble (Nat.succ m) (len l) with
   | false => rw [q2] at h; cases h
   | true =>
    rw [q2] at h
    have h : nth (len l - (m + 1)) l = .at x := h
    rw [len_eq] at q2 h
    have l1 := Nat.le_of_ble_eq_true q
    have l2 : m + 1 ≤ l.length := Nat.le_of_ble_eq_true q2
    rw [nth_eq] at h
    refine ⟨by omega, by omega, l.length - (m + 1), ?_, ?_⟩
    · unfold seqIndex?
      have e1 : Int.negSucc m < 0 := by omega
      have e2 : Int.negSucc m + (l.length : Int) = ((l.length - (m + 1) : Nat) : Int) := by omega
      simp [e1, e2]
      omega
    · split at h
      · cases h; assumption
      · cases h
theorem rO_ok {o : OL V} {st st' : St} {v : V} (h : rO o st = .ok v st') : o = .at v ∧ st' = st := by
 obtain ⟨x, e, h1⟩ := ol_ok (o := o) h
 cases h1
 exact ⟨e, rfl⟩
variable {env : PySem.Env} {h₀ : Heap} {m : PySem.Str → Option Value} {D C : Led} {ρ : Env} {st : St}
theorem Rel.list (R : Rel S ns env h₀ m G D C ad ρ st s) {i : Nat} {a : Addr} {l : List V} (ha : ad[i]? = some a) (h : atT st.t i = some (.list l)) : ∃ vs k, D[i]? = some (a, lstOf vs k) ∧ s.heap.get? a = some (lstOf vs k) ∧ Rvs S G ad l vs := by
 obtain ⟨a', d, ob, x1, x2, x3⟩ := R.hp.2.2 i _ h
 rw [ha] at x1; cases x1
 cases x3 with
 | list _ vs _ k y => exact ⟨vs, k, x2, R.nw.get (List.mem_append_right _ (List.mem_append_left _ (List.mem_of_getElem? x2))), y⟩
theorem Rel.dict (R : Rel S ns env h₀ m G D C ad ρ st s) {i : Nat} {a : Addr} {l : List (V × V)} (ha : ad[i]? = some a) (h : atT st.t i = some (.dict l)) : ∃ es k, D[i]? = some (a, dictOf es k) ∧ s.heap.get? a = some (dictOf es k) ∧ Rds S G ad l es := by
 obtain ⟨a', d, ob, x1, x2, x3⟩ := R.hp.2.2 i _ h
 rw [ha] at x1; cases x1
 cases x3 with
 | dict _ es _ k y => exact ⟨es, k, x2, R.nw.get (List.mem_append_right _ (List.mem_append_left _ (List.mem_of_getElem? x2))), y⟩
def idxV (x y : V) (s : St) : R V := (idx (fun zz s => .ok x s) (fun zz s => .ok y s)) .nil s
theorem SE.idx {e i : PySem.Expr} {pos : Pos} {a b : DE} (ha : SE S n sc ns e a) (hb : SE S n sc ns i b) (hsl : ∀ o k, subscripted i false o k = operate [o, k] (getItem o k) := by intro _ _; rfl) : SE S n sc ns (.Subscript e i pos) (idx a b) := ⟨fun hA F R h q => by
 obtain ⟨x, s1, e1, h1⟩ := R_ok h
 obtain ⟨y, s2, e2, h2⟩ := R_ok h1
 refine Subscript_ (ha.go hA F R e1 fun s' G' D' ad' cx R1 g1 p1 rx => hb.go hA F R1 e2 fun s'' G'' D'' ad'' cy R2 g2 p2 ry => ?_)
 have rx2 := rx.mono g2 p2
 have gg := List.Subset.trans g1 g2
 have pp := p1.trans p2
 cases x with
 | tup l =>
  obtain ⟨k, rfl, h3⟩ := onI_ok (v := y) (k := 1) (f := fun i => rO (nths l i) s2) h2
  obtain ⟨h4, rfl⟩ := rO_ok h3
  obtain ⟨b1, b2, j, h5, h6⟩ := nths_ok h4
  cases ry
  apply Rv.etup rx2; intro vs a k' o r
  obtain ⟨c, hc, rc⟩ := r.get h6
  refine item_tupleT (l := vs) (R2.tup F o) (by omega) (by omega) (by rw [r.length]; exact h5) hc (q _ _ _ _ _ R2 gg pp rc) (hsl _ _)
 | lst l =>
  obtain ⟨k, rfl, h3⟩ := onI_ok (v := y) (k := 1) (f := fun i => rO (nthp l i) s2) h2
  obtain ⟨h4, rfl⟩ := rO_ok h3
  obtain ⟨m', rfl, b2, h6⟩ := nthp_ok h4
  cases ry
  apply Rv.elst rx2; intro vs a k' o r
  obtain ⟨c, hc, rc⟩ := r.get h6
  have hL := R2.lst F o
  exact tail_any hL.typeIs slot_list_getitem.lookup (wpAny_getItem_list hL (by omega) (by omega) (by simpa using hc) (q _ _ _ _ _ R2 gg pp rc)) (hsl _ _)
 | bytes l =>
  obtain ⟨k, rfl, h3⟩ := onI_ok (v := y) (k := 1) (f := fun i => (Bool.rec (Mine.R.bad 1) (OL.rec (Mine.R.bad 1) (fun b => Mine.R.ok (V.int (Int.ofNat b)) s2) (nthp l i)) (Nat.ble (len l) cap) : Mine.R V)) h2
  obtain ⟨hc, h4⟩ := bt_ok h3
  obtain ⟨w, h5, h6⟩ := ol_ok (o := nthp l k) h4
  cases h6
  obtain ⟨m', rfl, b2, h7⟩ := nthp_ok h5
  have hc : len l ≤ 4096 := Nat.le_of_ble_eq_true hc
  rw [len_eq] at hc
  cases ry
  apply Rv.ebytes rx2; intro bb t ee
  have hl : l.length = bb.toList.length := by rw [← ee]; simp
  have hm : m' < l.length := (List.getElem?_eq_some_iff.mp h7).1
  have hg : (bb.toList.getD m' 0).toNat = w := by
   rw [← ee, List.getElem?_map] at h7
   rw [List.getD_eq_getElem?_getD]
   cases q : bb.toList[m']? with
   | none => rw [q] at h7; cases h7
   | some z => rw [q] at h7; cases h7; rfl
  have e3 : bb = bb.toList.toArray := by simp
  rw [e3]
  refine tail_any (T := "bytes") (typeIs_bytes _ _ _) FB.slot_bytes_getitem.lookup (PySem.W.getItem_bytes (l := bb.toList) (by omega) (by omega) (by omega) ?_) (hsl _ _)
  refine q _ _ _ _ _ (R2.toks _) gg pp ?_
  have e4 : (bb.toList.getD (m' : Int).toNat 0).toNat = w := by rw [Int.toNat_natCast]; exact hg
  rw [e4]
  exact .int _ _
 | dct l =>
  obtain ⟨o, h3, h4⟩ := ol_ok (o := dfind y l) h2
  obtain ⟨rfl, rfl⟩ := rO_ok h4
  apply Rv.edct rx2; intro es a k' ob r
  have hg := R2.obs F ob
  exact tail_any (T := "dict") ⟨_, hg, rfl⟩ slot_dict_getitem.lookup (getItem_dict ry r h3 hg fun cv rv => q _ _ _ _ _ (R2.toks _) gg pp rv) (hsl _ _)
 | ref i' =>
  obtain ⟨i2, e0, ⟨c, f, _, h3⟩ | ⟨l, hl, h3⟩ | ⟨l, hl, h3⟩⟩ := onO_ok (v := .ref i') (k := 1) h2
  · cases h3
  · cases e0
    obtain ⟨k, rfl, h4⟩ := onI_ok h3
    obtain ⟨h5, rfl⟩ := rO_ok h4
    obtain ⟨m', rfl, b2, h6⟩ := nthp_ok h5
    cases ry
    apply Rv.eref rx2; intro a ea
    obtain ⟨vs, k2, d1, d2, d3⟩ := R2.list ea hl
    obtain ⟨c, hc, rc⟩ := d3.get h6
    have hL : s''.heap.IsList a vs.toArray := ⟨_, d2, rfl, _, rfl⟩
    exact tail_any hL.typeIs slot_list_getitem.lookup (wpAny_getItem_list hL (by omega) (by omega) (by simpa using hc) (q _ _ _ _ _ R2 gg pp rc)) (hsl _ _)
  · cases e0
    obtain ⟨o, h4, h5⟩ := ol_ok (o := dfind y l) h3
    obtain ⟨rfl, rfl⟩ := rO_ok h5
    apply Rv.eref rx2; intro a ea
    obtain ⟨es, k2, d1, d2, d3⟩ := R2.dict ea hl
    exact tail_any (T := "dict") ⟨_, d2, rfl⟩ slot_dict_getitem.lookup (getItem_dict ry d3 h4 d2 fun cv rv => q _ _ _ _ _ (R2.toks _) gg pp rv) (hsl _ _)
 | _ => cases h2⟩
theorem Rel.notSys (R : Rel S ns env h₀ m G D C ad ρ st s) (F : Fix S sc ns env h₀) {p : Addr × Obj} (h : p ∈ G ++ (D ++ C)) : (p.1 == sysModules) = false := by
 obtain ⟨o, ho⟩ := F.sysm
 rw [beq_eq_false_iff_ne]
 intro e
 have := (R.nw p h).2.2
 rw [e, ho] at this
 cases this
theorem memb_lex (hs : Stands S G s) {A : Around} {x : V} {cx : Value} (rx : Rv S G ad x cx) (hu : A.units + 80 < cLine) : ∀ {l : List V} {vs : List Value} {b : Bool}, Rvs S G ad l vs → memb x l = b3 b → InLex A.in1 s cx b vs := by
 intro l vs b r
 apply r.ind
 · exact b3_no
 · intro v c l cs r1 r2 ih h
   have h : (B3.rec (memb x l) (B3.rec .yes .yes .er (memb x l)) .er (eqV 6 v x) : B3) = b3 b := h
   have eqa : ∀ r, eqV 6 v x = b3 r → EqAt A.in1 s c cx r := fun r hr => (eq_both hs 6 A.in1 v x c cx r hr r1 rx (by show A.units + 1 + 6 < _; omega)).2
   cases q : eqV 6 v x with
   | er => rw [q] at h; exact (b3_er h).elim
   | no => rw [q] at h; exact .inr ⟨eqa false q, ih h⟩
   | yes =>
    rw [q] at h
    refine .inl ⟨eqa true q, ?_⟩
    cases q2 : memb x l with
    | er => rw [q2] at h; exact (b3_er h).elim
    | no => rw [q2] at h; exact b3_yes h
    | yes => rw [q2] at h; exact b3_yes h
theorem tin_ok {a b : DE} {ρ : Env} {st st' : St} {r : Bool} (h : tin a b ρ st = .ok r st') : ∃ x y s1, a ρ st = .ok x s1 ∧ b ρ s1 = .ok y st' ∧
 ((∃ l, y = .tup l ∧ memb x l = b3 r) ∨ (∃ l o, y = .dct l ∧ dfind x l = .at o ∧ r = isAt o) ∨ ∃ i l o, y = .ref i ∧ atT st'.t i = some (.dict l) ∧ dfind x l = .at o ∧ r = isAt o) := by
 obtain ⟨x, s1, e1, h1⟩ := R_ok h
 obtain ⟨y, s2, e2, h2⟩ := R_ok h1
 cases y with
 | tup l =>
  obtain ⟨h3, rfl⟩ := rB_ok (show rB (memb x l) s2 = .ok r st' from h2)
  exact ⟨x, _, s1, e1, e2, .inl ⟨l, rfl, h3⟩⟩
 | dct l =>
  obtain ⟨o, h3, h4⟩ := ol_ok (o := dfind x l) h2
  cases h4
  exact ⟨x, _, s1, e1, e2, .inr (.inl ⟨l, o, rfl, h3, rfl⟩)⟩
 | ref i =>
  obtain ⟨i2, e0, ⟨c, f, _, h3⟩ | ⟨l, hl, h3⟩ | ⟨l, hl, h3⟩⟩ := onO_ok (v := .ref i) (k := 12) h2
  · cases h3
  · cases h3
  · cases e0
    obtain ⟨o, h4, h5⟩ := ol_ok (o := dfind x l) h3
    cases h5
    exact ⟨x, _, s1, e1, e2, .inr (.inr ⟨i, l, o, rfl, hl, h4, rfl⟩)⟩
 | _ => exact absurd h2 (by intro h; cases h)
theorem in_rule {A : Around} {E Q : Value → Shared → Prop} {x y : V} {cx cy : Value} {r : Bool} (hA : Room n A) (F : Fix S sc ns env h₀) (R : Rel S ns env h₀ m G D C ad ρ st s) (rx : Rv S G ad x cx) (ry : Rv S G ad y cy)
 (h : (∃ l, y = .tup l ∧ memb x l = b3 r) ∨ (∃ l o, y = .dct l ∧ dfind x l = .at o ∧ r = isAt o) ∨ ∃ i l o, y = .ref i ∧ atT st.t i = some (.dict l) ∧ dfind x l = .at o ∧ r = isAt o) (hK : ∀ l, y ≠ .dct l)
 (q : ∀ t, Q (.bool r) { s with toks := t }) : wpAny (model S.prog S.w) A (compareOp .In cx cy) Q E s := by
 have hu : A.units + 80 < cLine := by have := hA.un; omega
 rcases h with ⟨l, rfl, h⟩ | ⟨l, o, rfl, _⟩ | ⟨i, l, o, rfl, h1, h2, rfl⟩
 · apply Rv.etup ry; intro vs a k ob rs
   exact in_lex (R.obs F ob) (memb_lex (R.stands F) rx hu rs h) (q s.toks)
 · exact absurd rfl (hK l)
 · apply Rv.eref ry; intro a ea
   obtain ⟨es, k, d1, d2, d3⟩ := R.dict ea h1
   exact in_dict rx d3 h2 d2 (R.notSys F (List.mem_append_right _ (List.mem_append_left _ (List.mem_of_getElem? d1)))) (q _)
end
end
end Mine
end
section
namespace Mine
open PySem PySem.W PySem.F
open Sem (wp)
theorem q_bytes_bytes : typeLookup (.type "bytes") "__bytes__" = pure (some (.builtin "bytes.__bytes__")) := by rw [typeLookup_type, builtinLookup_eq_fast]; kernel_rfl
theorem q_int_bytes : typeLookup (.type "int") "__bytes__" = pure none := by rw [typeLookup_type, builtinLookup_eq_fast]; kernel_rfl
theorem q_int_index : typeLookup (.type "int") "__index__" = pure (some (.builtin "int.__index__")) := by rw [typeLookup_type, builtinLookup_eq_fast]; kernel_rfl
theorem meets_bytes_bytes (b : Array UInt8) (t : Tok) : Meets (Builtin.«bytes.__new__» ⟨[.type "bytes", .bytes b t], []⟩) (fun zz R s => R (.ok (.ret (.bytes b t))) s) :=
 Meets.of_wp fun prog w A R s hs => by
  have hT : s.TypeIs (.bytes b t) "bytes" := typeIs_bytes _ _ _
  unfold Builtin.«bytes.__new__»
  refine wpAny_bind (wpAny_of_eq (a := true) rfl ?_)
  refine bm_if_false rfl ?_
  refine wpAny_bind (wpAny_of_eq F.bm_sub ?_)
  refine bm_if_false rfl ?_
  refine wpAny_bind (wpAny_of_eq (F.bm_bind _) ?_)
  refine wpAny_bind (wpAny_of_eq (a := ()) rfl ?_)
  refine wpAny_bind (wpAny_of_eq (a := ()) rfl ?_)
  refine bm_if_false rfl ?_
  refine wpAny_bind (wpAny_specialOf hT q_bytes_bytes ?_)
  wp_walk
  exact ⟨_, rfl, hs⟩
theorem call_bytes_bytes {prog : Program} {w : World} {A : Around} {E : Value → Shared → Prop} {s : Shared} {b : Array UInt8} {t : Tok} {Q : Value → Shared → Prop} (h : Q (.bytes b t) s) : wpAny (model prog w) A (call (.type "bytes") [.bytes b t]) Q E s :=
 callType_new F.bm_called (by decide +kernel) (F.bm_typeCall _) (F.bm_newCall _) (fun obj => F.args_object_init_2 obj _) F.bm_entry (meets_bytes_bytes b t) ⟨typeIs_bytes _ _ _, h⟩
theorem meets_bytes_int (k : Int) (h0 : 0 ≤ k) (hn : k ≤ 1000) (t : Tok) : Meets (Builtin.«bytes.__new__» ⟨[.type "bytes", .int k t], []⟩) (fun zz R s => R (.ok (.ret (.bytes (Array.replicate k.toNat 0) s.toks))) { s with toks := s.toks + 1 }) := by
 have e1 : Builtin.Bytes.fitsIndex k = true := by simp [Builtin.Bytes.fitsIndex]; omega
 have e2 : ¬ (k < 0) := by omega
 have e3 : ¬ (k > 2 ^ 63 - 34) := by omega
 have e4 : Builtin.Bytes.tooLong k.toNat = false := by show decide _ = false; rw [decide_eq_false_iff_not, sizeLine_eq]; omega
 refine Meets.of_wp ?_
 intro prog w A R s hs
 have hT : s.TypeIs (.int k t) "int" := rfl
 unfold Builtin.«bytes.__new__»
 refine wpAny_bind (wpAny_of_eq (a := true) rfl ?_)
 refine bm_if_false rfl ?_
 refine wpAny_bind (wpAny_of_eq F.bm_sub ?_)
 refine bm_if_false rfl ?_
 refine wpAny_bind (wpAny_of_eq (F.bm_bind _) ?_)
 refine wpAny_bind (wpAny_of_eq (a := ()) rfl ?_)
 refine wpAny_bind (wpAny_of_eq (a := ()) rfl ?_)
 refine bm_if_false rfl ?_
 refine wpAny_bind (wpAny_specialOf hT q_int_bytes ?_)
 refine wpAny_bind (wpAny_of_eq (a := false) rfl ?_)
 refine bm_if_false rfl ?_
 refine wpAny_bind (wpAny_specialOf hT q_int_index ?_)
 refine bm_if_false rfl ?_
 refine wpAny_bind (wpAny_of_eq (a := .ok k) rfl ?_)
 dsimp only
 refine bm_if_false (by rw [e1]; rfl) ?_
 rw [if_neg e2, if_neg e3, if_neg (by rw [e4]; decide)]
 have e5 : ¬ ((Array.replicate k.toNat (0 : UInt8)).size > sizeLine) := by rw [Array.size_replicate, sizeLine_eq]; omega
 have e6 : mkBytes (Array.replicate k.toNat 0) = (do return .bytes (Array.replicate k.toNat 0) (← fresh)) := if_neg e5
 rw [e6]
 wp_walk
 exact ⟨_, rfl, hs⟩
theorem call_bytes_int {prog : Program} {w : World} {A : Around} {E : Value → Shared → Prop} {s : Shared} {k : Int} (h0 : 0 ≤ k) (hn : k ≤ 1000) {t : Tok} {Q : Value → Shared → Prop} (h : Q (.bytes (Array.replicate k.toNat 0) s.toks) { s with toks := s.toks + 1 }) : wpAny (model prog w) A (call (.type "bytes") [.int k t]) Q E s :=
 callType_new F.bm_called (by decide +kernel) (F.bm_typeCall _) (F.bm_newCall _) (fun obj => F.args_object_init_2 obj _) F.bm_entry (meets_bytes_int k h0 hn t) ⟨typeIs_bytes _ _ _, h⟩
end Mine
end
section
namespace Mine
open PySem PySem.W PySem.Calls PyProof.Rows
noncomputable section
section
variable {S : Stage} {n : Nat} {sc : Scope} {ns : List (Option PySem.Str)}
theorem keeps_blt {M : Model} {f : Value} (hf : ∀ a, f ≠ .ref a) (h : Heap) : ∃ k, (k = Keeper.frame ∨ k = Keeper.machine ∨ k = Keeper.boundFrame) ∧ Looks M h (keeperOf f) k :=
 ⟨.machine, .inr (.inl rfl), by cases f <;> first | exact Looks.now | exact absurd rfl (hf _)⟩
theorem Rel.heap {env : PySem.Env} {h₀ : Heap} {m : PySem.Str → Option Value} {G D C : Led} {ad : List Addr} {ρ : Env} {st : St} {s : Shared} (R : Rel S ns env h₀ m G D C ad ρ st s) {h' : Heap} (t : Tok) (F' : Fr h₀ env.locals h' m) (N' : News h₀ env.locals h' (G ++ (D ++ C))) :
 Rel S ns env h₀ m G D C ad ρ st { s with heap := h', toks := t } := ⟨F', N', R.gd, R.nod, R.hp, R.er, R.gens, R.drawn, R.os, R.cl⟩
def Blt (S : Stage) (n : Nat) (sc : Scope) (ns : List (Option PySem.Str)) (bv : Value) (f : List V → St → R V) : Prop :=
 ∀ {A : Around} {E : Value → Shared → Prop} {Q : Value → Shared → Prop} {env h₀ m G D C ad ρ st s vs cs v st'}, Room n A → Fix S sc ns env h₀ → Rel S ns env h₀ m G D C ad ρ st s → Rvs S G ad vs cs → f vs st = .ok v st' →
  (∀ s' G' D' ad' cv, Rel S ns env h₀ m G' D' C ad' ρ st' s' → G ⊆ G' → ad <+: ad' → Rv S G' ad' v cv → Q cv s') → wpAny (model S.prog S.w) A (call bv cs) Q E s
theorem SE.blt {x : PySem.Str} {p pos : Pos} {es : List PySem.Expr} {ds : List DE} {d : DE} {bv : Value} {f : List V → St → R V} (hb : Blt S n sc ns bv f)
 (hd : ∀ {ρ st v st'}, d ρ st = .ok v st' → ∃ vs s1, evs ds ρ st = .ok vs s1 ∧ f vs s1 = .ok v st')
 (hs : SEs S n sc ns es ds) (hv : bootBuiltins x = some bv) (hr : ∀ a, bv ≠ .ref a) (hn : x ≠ "__name__") (hx : (x == ("__debug__" : PySem.Str)) = false)
 (e : nsIn S.K mainGlobals x = some Option.none) (hk : sc.names.lookup x = some .globalImplicit)
 (hp : ∀ env pos, (backTo pos (starEach es env)).any (·.1) = false)
 (he : ∀ env, eval (.Call (.Name x p) es [] pos) env = (do callWith pos (← eval (.Name x p) env) [] (backTo pos (starEach es env)) (backToKw pos (keywordEach [] env)))) :
 SE S n sc ns (.Call (.Name x p) es [] pos) d := ⟨fun hA F R h q => by
 obtain ⟨vs, s1, e1, h1⟩ := hd h
 refine Call_ (name_blt F R hk e hv hn hx ?_) (he _)
 refine callWith_of (P := fun zz => True) (by rw [hp]; rfl) (fun zz zz => keeps_blt hr _) (evalArgs_some (hp _ _) ?_)
 refine hs.go hA F R e1 fun s' G' D' ad' cs R1 g1 p1 r => ⟨trivial, ?_⟩
 exact hb hA F R1 r h1 fun s'' G'' D'' ad'' cv R2 g2 p2 rv => q _ _ _ _ _ R2 (List.Subset.trans g1 g2) (p1.trans p2) rv⟩
def f1 (f : V → St → R V) : List V → St → R V := fun vs s => match vs with | [v] => f v s | _ => .bad 0
def f2 (f : V → V → St → R V) : List V → St → R V := fun vs s => match vs with | [v, w] => f v w s | _ => .bad 0
theorem one_ev {a : DE} {f : V → St → R V} {ρ : Env} {st st' : St} {v : V} (h : (R.rec (fun v s => f v s) .bad (a ρ st) : R V) = .ok v st') : ∃ vs s1, evs [a] ρ st = .ok vs s1 ∧ f1 f vs s1 = .ok v st' := by
 obtain ⟨x, s1, e1, h1⟩ := R_ok h
 refine ⟨[x], s1, ?_, h1⟩
 show (R.rec (fun v s => R.rec (fun vs s => .ok (.cons v vs) s) .bad (evs [] ρ s)) .bad (a ρ st) : R (List V)) = _
 rw [e1]; rfl
theorem two_ev {a b : DE} {f : V → V → St → R V} {ρ : Env} {st st' : St} {v : V} (h : (R.rec (fun x s => R.rec (fun y s => f x y s) .bad (b ρ s)) .bad (a ρ st) : R V) = .ok v st') : ∃ vs s1, evs [a, b] ρ st = .ok vs s1 ∧ f2 f vs s1 = .ok v st' := by
 obtain ⟨x, s1, e1, h1⟩ := R_ok h
 obtain ⟨y, s2, e2, h2⟩ := R_ok h1
 refine ⟨[x, y], s2, ?_, h2⟩
 show (R.rec (fun v s => R.rec (fun vs s => .ok (.cons v vs) s) .bad (evs [b] ρ s)) .bad (a ρ st) : R (List V)) = _
 rw [e1]
 show (R.rec (fun vs s => .ok (.cons x vs) s) .bad (R.rec (fun v s => R.rec (fun vs s => .ok (.cons v vs) s) .bad (evs [] ρ s)) .bad (b ρ s1) : R (List V)) : R (List V)) = _
 rw [e2]; rfl
theorem Blt.one {bv : Value} {f : V → St → R V} (h : ∀ {A : Around} {E : Value → Shared → Prop} {Q : Value → Shared → Prop} {env h₀ m G D C ad ρ st s v c w st'}, Room n A → Fix S sc ns env h₀ → Rel S ns env h₀ m G D C ad ρ st s → Rv S G ad v c → f v st = .ok w st' →
 (∀ s' G' D' ad' cv, Rel S ns env h₀ m G' D' C ad' ρ st' s' → G ⊆ G' → ad <+: ad' → Rv S G' ad' w cv → Q cv s') → wpAny (model S.prog S.w) A (call bv [c]) Q E s) : Blt S n sc ns bv (f1 f) := fun hA F R r e q => by
 cases r with
 | nil => cases e
 | cons r1 r2 => cases r2 with
  | nil => exact h hA F R r1 e q
  | cons _ _ => cases e
theorem Blt.two {bv : Value} {f : V → V → St → R V} (h : ∀ {A : Around} {E : Value → Shared → Prop} {Q : Value → Shared → Prop} {env h₀ m G D C ad ρ st s v c v' c' w st'}, Room n A → Fix S sc ns env h₀ → Rel S ns env h₀ m G D C ad ρ st s → Rv S G ad v c → Rv S G ad v' c' → f v v' st = .ok w st' →
 (∀ s' G' D' ad' cv, Rel S ns env h₀ m G' D' C ad' ρ st' s' → G ⊆ G' → ad <+: ad' → Rv S G' ad' w cv → Q cv s') → wpAny (model S.prog S.w) A (call bv [c, c']) Q E s) : Blt S n sc ns bv (f2 f) := fun hA F R r e q => by
 cases r with
 | nil => cases e
 | cons r1 r2 => cases r2 with
  | nil => cases e
  | cons r2 r3 => cases r3 with
   | nil => exact h hA F R r1 r2 e q
   | cons _ _ => cases e
def lenF (sl : Nat → OL Nat) (v : V) (s : St) : R V := OL.rec (.bad 15) (fun n => .ok (.int (.ofNat n)) s) (lenV v s sl)
theorem capL_ok {n k : Nat} (h : capL n = .at k) : n = k ∧ k ≤ 4096 := by
 have h : (Bool.rec .no (.at n) (Nat.ble n 4096) : OL Nat) = .at k := h
 cases q : Nat.ble n 4096 with
 | true => rw [q] at h; cases h; exact ⟨rfl, Nat.le_of_ble_eq_true q⟩
 | false => rw [q] at h; cases h
theorem blt_len {sl : Nat → OL Nat} (hsl : ∀ k n, sl k = .at n → (S.nm k).length = n ∧ n ≤ 4096) : Blt S n sc ns (.builtin "len") (f1 (lenF sl)) := Blt.one fun zz F R r h q => by
 obtain ⟨k, e, h1⟩ := ol_ok h
 cases h1
 cases r with
 | tup l vs a k' o rs =>
  obtain ⟨e1, e2⟩ := capL_ok (show capL (len l) = .at k from e)
  rw [len_eq] at e1
  have l1 := rs.length
  refine len_tuple (R.tup F o) (by simp; omega) ?_
  have e3 : ((vs.toArray.size : Nat) : Int) = Int.ofNat k := by simp; omega
  rw [e3]
  exact q _ _ _ _ _ (R.toks _) (List.Subset.refl _) (List.prefix_refl _) (.int _ _)
 | lst l vs a k' o rs =>
  obtain ⟨e1, e2⟩ := capL_ok (show capL (len l) = .at k from e)
  rw [len_eq] at e1
  have l1 := rs.length
  refine PyProof.Rows.len_list (R.lst F o) (by simp; omega) ?_
  have e3 : ((vs.toArray.size : Nat) : Int) = Int.ofNat k := by simp; omega
  rw [e3]
  exact q _ _ _ _ _ (R.toks _) (List.Subset.refl _) (List.prefix_refl _) (.int _ _)
 | bytes l b t eb =>
  obtain ⟨e1, e2⟩ := capL_ok (show capL (len l) = .at k from e)
  rw [len_eq] at e1
  have l1 : b.size = l.length := by rw [← eb]; simp
  refine PySem.W.len_bytes (by omega) ?_
  have e3 : ((b.size : Nat) : Int) = Int.ofNat k := by rw [l1, e1]; rfl
  rw [e3]
  exact q _ _ _ _ _ (R.toks _) (List.Subset.refl _) (List.prefix_refl _) (.int _ _)
 | str j t =>
  obtain ⟨e1, e2⟩ := hsl j k e
  refine PyProof.Rows.len_str (by omega) ?_
  rw [show (((S.nm j).length : Nat) : Int) = Int.ofNat k by rw [e1]; rfl]
  exact q _ _ _ _ _ (R.toks _) (List.Subset.refl _) (List.prefix_refl _) (.int _ _)
 | _ => cases e
def intF (v : V) (s : St) : R V := bInt (fun zz s => .ok v s) .nil s
theorem blt_int : Blt S n sc ns (.type "int") (f1 intF) := Blt.one fun zz F R r h q => by
 cases r with
 | bool b =>
  cases h
  refine PySem.call_int_bool ?_
  refine q _ _ _ _ _ (R.toks _) (List.Subset.refl _) (List.prefix_refl _) ?_
  cases b
  · exact .int _ _
  · exact .int _ _
 | _ => cases h
def maxF (x y : V) (s : St) : R V := onI x (.bad 21) fun i => onI y (.bad 21) fun j => Bool.rec (.ok x s) (.ok y s) (ltI i j)
theorem blt_max : Blt S n sc ns (.builtin "max") (f2 maxF) := Blt.two fun hA F R r1 r2 h q => by
 obtain ⟨i, rfl, h1⟩ := onI_ok h
 obtain ⟨j, rfl, h2⟩ := onI_ok h1
 cases r1; cases r2
 refine max_two_N hA.hd R.fr R.nw fun h' tk F' N' => ?_
 rw [ltI_eq] at h2
 by_cases c : i < j
 · rw [decide_eq_true c] at h2; cases h2
   rw [if_pos c, if_pos c]
   exact q _ _ _ _ _ (R.heap tk F' N') (List.Subset.refl _) (List.prefix_refl _) (.int _ _)
 · rw [decide_eq_false c] at h2; cases h2
   rw [if_neg c, if_neg c]
   exact q _ _ _ _ _ (R.heap tk F' N') (List.Subset.refl _) (List.prefix_refl _) (.int _ _)
def minF (x y : V) (s : St) : R V := onI x (.bad 22) fun i => onI y (.bad 22) fun j => Bool.rec (.ok x s) (.ok y s) (ltI j i)
theorem blt_min : Blt S n sc ns (.builtin "min") (f2 minF) := Blt.two fun hA F R r1 r2 h q => by
 obtain ⟨i, rfl, h1⟩ := onI_ok h
 obtain ⟨j, rfl, h2⟩ := onI_ok h1
 cases r1; cases r2
 refine min_two_N hA.hd R.fr R.nw fun h' tk F' N' => ?_
 rw [ltI_eq] at h2
 by_cases c : j < i
 · rw [decide_eq_true c] at h2; cases h2
   rw [if_pos c, if_pos c]
   exact q _ _ _ _ _ (R.heap tk F' N') (List.Subset.refl _) (List.prefix_refl _) (.int _ _)
 · rw [decide_eq_false c] at h2; cases h2
   rw [if_neg c, if_neg c]
   exact q _ _ _ _ _ (R.heap tk F' N') (List.Subset.refl _) (List.prefix_refl _) (.int _ _)
def divmodF (x y : V) (s : St) : R V := bDivmod (fun zz s => .ok x s) (fun zz s => .ok y s) .nil s
theorem blt_divmod : Blt S n sc ns (.builtin "divmod") (f2 divmodF) := Blt.two fun hA F R r1 r2 h q => by
 obtain ⟨i, rfl, h1⟩ := onI_ok h
 obtain ⟨j, rfl, h2⟩ := onI_ok h1
 obtain ⟨k, rfl, h3⟩ := ir_ok h2
 obtain ⟨c1, h4⟩ := bt_ok h3
 obtain ⟨c, h5⟩ := bf_ok h4
 cases r1; cases r2; cases h5
 have c0 : k ≠ 0 := Nat.ne_of_beq_eq_false c
 have c2 : k ≤ 1000000000 := Nat.le_of_ble_eq_true c1
 refine divmod_N R.fr R.nw (by omega) (fun h' F' N' => ?_) (.inl (PyProof.noPylong_small (by omega)))
 rw [fdivI_eq, fmodI_eq] at q
 exact q _ _ _ _ _ (R.more _ F' N' R.lt) (List.subset_cons_self _ _) (List.prefix_refl _) (.tup _ [.int _ _, .int _ _] _ 0 (.inl (.head _)) (.cons (.int _ _) (.cons (.int _ _) .nil)))
theorem sum_are {G : Led} {ad : List Addr} : ∀ {l : List V} {vs : List Value} {i k : Int}, Rvs S G ad l vs → sumI l i = .at k → ∃ is, IntsAre vs is ∧ k = i + is.sum := by
 intro l vs i k r
 revert i
 apply r.ind
 · intro i h
   cases h; exact ⟨[], .nil, by simp⟩
 · intro v c l vs r1 r2 ih i h
   have h : onI v .no (fun j => sumI l (addI i j)) = .at k := h
   cases v with
   | int j =>
    have h : sumI l (addI i j) = .at k := h
    obtain ⟨is, a, b⟩ := ih h
    cases r1
    refine ⟨j :: is, .cons j _ a, ?_⟩
    rw [b, addI_eq, List.sum_cons]; omega
   | _ => cases h
def sumF (v : V) (s : St) : R V := bSum (fun zz s => .ok v s) .nil s
theorem blt_sum : Blt S n sc ns (.builtin "sum") (f1 sumF) := Blt.one fun hA F R r h q => by
 cases r with
 | lst l vs a k o rs =>
  obtain ⟨t, e, h1⟩ := ol_ok (o := sumI l (.ofNat 0)) h
  cases h1
  obtain ⟨is, a1, a2⟩ := sum_are rs e
  refine LSm.sum_ints R.fr R.nw hA.hd (R.lst F o) a1 fun h' tk t' F' N' => ?_
  have e2 : is.sum = t := by rw [a2]; simp
  rw [e2]
  exact q _ _ _ _ _ (R.heap tk F' N') (List.Subset.refl _) (List.prefix_refl _) (.int _ _)
 | _ => cases h
theorem toBs_are {G : Led} {ad : List Addr} : ∀ {l : List V} {vs : List Value} {r : List Nat}, Rvs S G ad l vs → toBs l = .at r → ∃ is : List Int, IntsAre vs is ∧ (∀ i ∈ is, 0 ≤ i ∧ i < 256) ∧ r = is.map Int.toNat := by
 intro l vs r rr
 revert r
 apply rr.ind
 · intro r h
   cases h; exact ⟨[], .nil, by simp, rfl⟩
 · intro v c l vs r1 r2 ih r h
   have h : toB v (toBs l) = .at r := h
   cases v with
   | int j =>
    cases j with
    | ofNat k =>
     have h : (Bool.rec .no (OL.rec .no (fun r => .at (.cons k r)) (toBs l)) (Nat.ble k 255) : OL (List Nat)) = .at r := h
     cases c : Nat.ble k 255 with
     | false => rw [c] at h; cases h
     | true =>
      rw [c] at h
      cases e : toBs l with
      | no => rw [e] at h; cases h
      | «at» r' =>
       rw [e] at h; cases h
       obtain ⟨is, a1, a2, a3⟩ := ih e
       have := Nat.le_of_ble_eq_true c
       cases r1
       refine ⟨(k : Int) :: is, .cons _ _ a1, fun i hi => ?_, by simp [a3]⟩
       rcases List.mem_cons.mp hi with rfl | hi
       · omega
       · exact a2 i hi
    | negSucc k => cases h
   | _ => cases h
theorem zeros_eq : ∀ k, zeros k = List.replicate k 0
 | 0 => rfl
 | k + 1 => by show 0 :: zeros k = _; rw [zeros_eq k]; rfl
def bytesF (v : V) (s : St) : R V := bBytes (fun zz s => .ok v s) .nil s
theorem blt_bytes : Blt S n sc ns (.type "bytes") (f1 bytesF) := Blt.one fun hA F R r h q => by
 cases r with
 | bytes l b t e => cases h; exact call_bytes_bytes (q _ _ _ _ _ R (List.Subset.refl _) (List.prefix_refl _) (.bytes l b t e))
 | int i t =>
  obtain ⟨k, rfl, h2⟩ := ir_ok h
  obtain ⟨c, h3⟩ := bt_ok h2
  cases h3
  have : k ≤ 1000 := Nat.le_of_ble_eq_true c
  refine call_bytes_int (by omega) (by omega) (q _ _ _ _ _ (R.toks _) (List.Subset.refl _) (List.prefix_refl _) (.bytes _ _ _ ?_))
  rw [zeros_eq]; simp
 | lst l vs a k o rs =>
  obtain ⟨hc, h0⟩ := bt_ok h
  obtain ⟨r, e, h1⟩ := ol_ok (o := toBs l) h0
  cases h1
  have hc : len l ≤ 4096 := Nat.le_of_ble_eq_true hc
  rw [len_eq] at hc
  obtain ⟨is, a1, a2, a3⟩ := toBs_are rs e
  have l1 := rs.length
  have l2 := a1.length
  refine KBa.make_K R.fr R.nw hA.hd (R.lst F o) a1 a2 (by omega) fun h' t' k' F' N' hin => ?_
  refine q _ _ _ _ _ (R.heap k' F' N') (List.Subset.refl _) (List.prefix_refl _) (.bytes _ _ _ ?_)
  rw [a3]
  show ((is.map fun n => n.toNat.toUInt8).toArray.toList).map UInt8.toNat = _
  rw [List.toList_toArray, List.map_map]
  refine List.map_congr_left fun x hx => ?_
  have := hin x hx
  show (UInt8.ofNat x.toNat).toNat = x.toNat
  rw [UInt8.toNat_ofNat']; omega
 | _ => cases h
end
end
end Mine
end
section
namespace Mine
open PySem PySem.W PySem.Calls PyProof.Rows
noncomputable section
theorem insI_ok {i : Int} : ∀ {js : List Int} {r : List V}, js.Pairwise (· ≤ ·) → insI i (js.map .int) = .at r → ∃ ks : List Int, r = ks.map .int ∧ ks.Perm (i :: js) ∧ ks.Pairwise (· ≤ ·)
 | [], r, _, h => by cases h; exact ⟨[i], rfl, .refl _, by simp⟩
 | j :: js, r, hp, h => by
  have h : (Bool.rec (OL.rec .no (fun r => .at (.cons (.int j) r)) (insI i (js.map .int))) (.at (.cons (.int i) (.cons (.int j) (js.map .int)))) (ltI i j) : OL (List V)) = .at r := h
  rw [ltI_eq] at h
  by_cases c : i < j
  · rw [decide_eq_true c] at h
    cases h
    refine ⟨i :: j :: js, rfl, .refl _, List.pairwise_cons.mpr ⟨fun x hx => ?_, hp⟩⟩
    rcases List.mem_cons.mp hx with rfl | hx
    · omega
    · have := (List.pairwise_cons.mp hp).1 x hx; omega
  · rw [decide_eq_false c] at h
    cases q : insI i (js.map .int) with
    | no => rw [q] at h; cases h
    | «at» r' =>
     rw [q] at h; cases h
     obtain ⟨ks, rfl, p1, p2⟩ := insI_ok (List.pairwise_cons.mp hp).2 q
     refine ⟨j :: ks, rfl, (List.Perm.cons j p1).trans (List.Perm.swap i j js), List.pairwise_cons.mpr ⟨fun x hx => ?_, p2⟩⟩
     rcases List.mem_cons.mp (p1.subset hx) with rfl | hx
     · omega
     · exact (List.pairwise_cons.mp hp).1 x hx
theorem sortV_ok : ∀ {l r : List V}, sortV l = .at r → ∃ is js : List Int, l = is.map .int ∧ r = js.map .int ∧ js.Perm is ∧ js.Pairwise (· ≤ ·)
 | [], r, h => by cases h; exact ⟨[], [], rfl, rfl, .refl _, .nil⟩
 | v :: l, r, h => by
  have h : (OL.rec .no (fun r => onI v .no fun i => insI i r) (sortV l) : OL (List V)) = .at r := h
  cases q : sortV l with
  | no => rw [q] at h; cases h
  | «at» r' =>
   rw [q] at h
   obtain ⟨is, js, rfl, rfl, p1, p2⟩ := sortV_ok q
   cases v with
   | int i =>
    obtain ⟨ks, e, p3, p4⟩ := insI_ok p2 h
    exact ⟨i :: is, ks, rfl, e, p3.trans (.cons i p1), p4⟩
   | _ => cases h
theorem keys_eq (l : List (V × V)) : keys l = l.map (·.1) := by
 induction l with
 | nil => rfl
 | cons p l ih => obtain ⟨a, b⟩ := p; show a :: keys l = _; rw [ih]; rfl
theorem vals_eq (l : List (V × V)) : vals l = l.map (·.2) := by
 induction l with
 | nil => rfl
 | cons p l ih => obtain ⟨a, b⟩ := p; show b :: vals l = _; rw [ih]; rfl
section
variable {S : Stage} {G : Led} {ad : List Addr} {s : Shared}
theorem uniq_cons {a v : V} {l : List (V × V)} (h : uniq ((a, v) :: l) = true) : sameK a l = true ∧ dget a l = .no ∧ uniq l = true := by
 have h : (OL.rec false (fun o => OL.rec (uniq l) (fun zz => false) o) (dfind a l) : Bool) = true := h
 cases q : dfind a l with
 | no => rw [q] at h; cases h
 | «at» o =>
  rw [q] at h
  obtain ⟨h1, rfl⟩ := dfind_ok q
  cases q2 : dget a l with
  | no => rw [q2] at h; exact ⟨h1, rfl, h⟩
  | «at» x => rw [q2] at h; cases h
def IntP (S : Stage) (G : Led) (ad : List Addr) (p : V × V) (q : Int × Value) : Prop := p.1 = .int q.1 ∧ Rv S G ad p.2 q.2
def StrP (S : Stage) (G : Led) (ad : List Addr) (p : V × V) (q : PySem.Str × Value) : Prop := (∃ j, p.1 = .str j ∧ q.1 = S.nm j) ∧ Rv S G ad p.2 q.2
theorem int_in {i : Int} : ∀ {l : List (V × V)} {kvs : List (Int × Value)}, All2 (IntP S G ad) l kvs → i ∈ kvs.map (·.1) → dget (.int i) l ≠ .no := fun r h => by
 induction r with
 | nil => simp at h
 | @cons p q l kvs pq r ih =>
  obtain ⟨a, v⟩ := p
  obtain ⟨j, cv⟩ := q
  obtain ⟨h1, h2⟩ := pq
  have h1 : a = .int j := h1
  subst h1
  rw [dget_cons]
  have e1 : keyEq (.int j) (.int i) = eqI j i := rfl
  rw [e1, eqI_eq]
  by_cases q : j = i
  · subst q; simp
  · have q1 : (j == i) = false := by simpa using q
    rw [q1]
    refine ih ?_
    rcases List.mem_cons.mp h with h | h
    · exact absurd h.symm q
    · exact h
theorem str_in {i : Nat} : ∀ {l : List (V × V)} {kvs : List (PySem.Str × Value)}, All2 (StrP S G ad) l kvs → S.nm i ∈ kvs.map (·.1) → dget (.str i) l ≠ .no := fun r h => by
 induction r with
 | nil => simp at h
 | @cons p q l kvs pq r ih =>
  obtain ⟨a, v⟩ := p
  obtain ⟨x, cv⟩ := q
  obtain ⟨⟨j, h1, hx⟩, h2⟩ := pq
  have h1 : a = .str j := h1
  have hx : x = S.nm j := hx
  subst h1; subst hx
  rw [dget_cons]
  have e1 : keyEq (.str j) (.str i) = Nat.beq j i := rfl
  rw [e1, BT.beq_eq]
  by_cases q : j = i
  · subst q; simp
  · rw [decide_eq_false q]
    refine ih ?_
    rcases List.mem_cons.mp h with h | h
    · exact absurd (S.inj _ _ h).symm q
    · exact h
theorem kvs_int {i : Int} : ∀ {l : List (V × V)} {es : List DictEntry}, Rds S G ad l es → sameK (.int i) l = true → uniq l = true → ∃ kvs : List (Int × Value), Pairs (PySem.intKind S.prog S.w) es kvs ∧ (kvs.map (·.1)).Nodup ∧ All2 (IntP S G ad) l kvs := fun r => by
 apply r.ind
 · exact fun zz zz => ⟨[], .nil, by simp, .nil⟩
 · intro a v e l es rk rv r ih h hu
   obtain ⟨h1, h2⟩ := sameK_cons h
   obtain ⟨j, rfl⟩ := likeK_int h1
   obtain ⟨u1, u2, u3⟩ := uniq_cons hu
   obtain ⟨kvs, i1, i2, i3⟩ := ih h2 u3
   cases rk with
   | int _ t cv =>
    refine ⟨(j, cv) :: kvs, .cons (intKind_is _ _ j t) rfl i1, List.nodup_cons.mpr ⟨fun hm => int_in i3 hm u2, i2⟩, .cons ⟨rfl, rv⟩ i3⟩
theorem kvs_str {i : Nat} : ∀ {l : List (V × V)} {es : List DictEntry}, Rds S G ad l es → sameK (.str i) l = true → uniq l = true → ∃ kvs : List (PySem.Str × Value), Pairs (PySem.strKind S.prog S.w) es kvs ∧ (kvs.map (·.1)).Nodup ∧ All2 (StrP S G ad) l kvs := fun r => by
 apply r.ind
 · exact fun zz zz => ⟨[], .nil, by simp, .nil⟩
 · intro a v e l es rk rv r ih h hu
   obtain ⟨h1, h2⟩ := sameK_cons h
   obtain ⟨j, rfl⟩ := likeK_str h1
   obtain ⟨u1, u2, u3⟩ := uniq_cons hu
   obtain ⟨kvs, i1, i2, i3⟩ := ih h2 u3
   cases rk with
   | str _ t cv =>
    refine ⟨(S.nm j, cv) :: kvs, .cons (strKind_is _ _ _ t) rfl i1, List.nodup_cons.mpr ⟨fun hm => str_in i3 hm u2, i2⟩, .cons ⟨⟨j, rfl, rfl⟩, rv⟩ i3⟩
theorem uniq_kind : ∀ {l : List (V × V)}, uniq l = true → sameK (.int 0) l = true ∨ sameK (.str 0) l = true
 | [], _ => .inl rfl
 | (a, v) :: l, h => by
  obtain ⟨u1, u2, u3⟩ := uniq_cons h
  rcases sameK_kind u1 with ⟨j, rfl⟩ | ⟨j, rfl⟩
  · refine .inl ?_
    show (Bool.rec false (sameK (.int 0) l) (likeK (.int j) (.int 0)) : Bool) = true
    exact same_swap_int u1
  · refine .inr ?_
    show (Bool.rec false (sameK (.str 0) l) (likeK (.str j) (.str 0)) : Bool) = true
    exact same_swap_str u1
where
 same_swap_int {i j : Int} : ∀ {l : List (V × V)}, sameK (.int i) l = true → sameK (.int j) l = true
  | [], _ => rfl
  | (a, v) :: l, h => by
   obtain ⟨h1, h2⟩ := sameK_cons h
   obtain ⟨k, rfl⟩ := likeK_int h1
   exact same_swap_int (l := l) h2
 same_swap_str {i j : Nat} : ∀ {l : List (V × V)}, sameK (.str i) l = true → sameK (.str j) l = true
  | [], _ => rfl
  | (a, v) :: l, h => by
   obtain ⟨h1, h2⟩ := sameK_cons h
   obtain ⟨k, rfl⟩ := likeK_str h1
   exact same_swap_str (l := l) h2
theorem dict_int_of {l : List (V × V)} {es : List DictEntry} {a : Addr} {nn : Nat} (hd : Rds S G ad l es) (hk : sameK (.int 0) l = true) (hu : uniq l = true) (ha : s.heap.get? a = some (dictOf es nn)) :
 ∃ kvs : List (Int × Value), s.heap.DictOf (PySem.intKind S.prog S.w) a kvs ∧ All2 (IntP S G ad) l kvs := by
 obtain ⟨kvs, k1, k2, k3⟩ := kvs_int hd hk hu
 exact ⟨kvs, ⟨_, es.toArray, nn, ha, ⟨rfl, rfl, rfl⟩, rfl, (dict_int hd hk).1, by simpa using k1, k2⟩, k3⟩
theorem dict_str_of {l : List (V × V)} {es : List DictEntry} {a : Addr} {nn : Nat} (hd : Rds S G ad l es) (hk : sameK (.str 0) l = true) (hu : uniq l = true) (ha : s.heap.get? a = some (dictOf es nn)) :
 ∃ kvs : List (PySem.Str × Value), s.heap.DictOf (PySem.strKind S.prog S.w) a kvs ∧ All2 (StrP S G ad) l kvs := by
 obtain ⟨kvs, k1, k2, k3⟩ := kvs_str hd hk hu
 exact ⟨kvs, ⟨_, es.toArray, nn, ha, ⟨rfl, rfl, rfl⟩, rfl, (dict_str hd hk).1, by simpa using k1, k2⟩, k3⟩
theorem key_int {j k : Int} {e : DictEntry} (h1 : Value.isInt j e.key = true) (h2 : Value.isInt k e.key = true) (h3 : e.hash = hashInt k) : Rk S (.int j) e := by
 obtain ⟨hash, key, val⟩ := e
 have h3 : hash = hashInt k := h3
 subst h3
 cases key with
 | int i t =>
  have e1 : i = j := eq_of_beq h1
  have e2 : i = k := eq_of_beq h2
  subst e1; subst e2
  exact .int _ _ _
 | _ => cases h1
set_option tactic.hygienic true in
theorem rds_int {l : List (V × V)} : ∀ {es : List DictEntry} {kvs : List (Int × Value)}, Pairs (PySem.intKind S.prog S.w) es kvs → (∀ e ∈ es, ∃ k, Value.isInt k e.key = true ∧ e.hash = hashInt k) → All2 (IntP S G ad) l kvs → Rds S G ad l es := by
 induction l with
 | nil =>
  intro es kvs hp hk r
  cases r
  cases hp
  exact .nil
 | cons p l ih =>
  intro es kvs hp hk r
  cases r with
  | cons h r =>
   cases hp with
   | cons p1 p2 p3 =>
    rename_i kv kvs e es
    obtain ⟨a, v⟩ := p
    obtain ⟨j, cv⟩ := kv
    obtain ⟨h1, h2⟩ := h
    have h1 : a = .int j := h1
    subst h1
    obtain ⟨k, k1, k2⟩ := hk e (.head _)
    have p2 : e.val = cv := p2
    subst p2
    exact .cons (key_int p1 k1 k2) h2 (ih p3 (fun e he => hk e (.tail _ he)) r)
end
end
end Mine
end
section
namespace Mine
open PySem PySem.W PySem.Calls PyProof.Rows
theorem frBut {h₀ h h' : Heap} {L d : Addr} {m : PySem.Str → Option Value} (F : Fr h₀ L h m) (k : ∀ b o, b ≠ d → h.get? b = some o → h'.get? b = some o) (hL : d ≠ L) (hn : h₀.get? d = none) : Fr h₀ L h' m := by
 obtain ⟨oL, a1, a2, hoL, a3⟩ := F.ns
 refine ⟨⟨oL, a1, a2, k _ _ (Ne.symm hL) hoL, a3⟩, fun b x e => k _ _ ?_ (F.keep b x e), F.above⟩
 rintro rfl
 rw [hn] at e; cases e
noncomputable section
section
variable {S : Stage} {n : Nat} {sc : Scope} {ns : List (Option PySem.Str)}
theorem sort_made {A : Around} {E : Value → Shared → Prop} {Q : Value → Shared → Prop} {h₀ h : Heap} {L : Addr} {m : PySem.Str → Option Value} {news : Led} {D : Addr} {vs : List Value} {is : List Int} {s : Shared}
 (F : Fr h₀ L h m) (N : News h₀ L h ((D, lstOf vs 0) :: news)) (lt : ∀ q ∈ news, q.1 < D) (hI : IntsAre vs is) (h64 : vs.length < 64)
 (q : ∀ h' (vs' : List Value) (is' : List Int) e, Fr h₀ L h' m → News h₀ L h' ((D, lstOf vs' e) :: news) → IntsAre vs' is' → is'.Perm is → is'.Pairwise (· ≤ ·) → Q (.ref D) { s with heap := h' }) :
 wpAny (model S.prog S.w) A (call (.builtin "list.sort") [.ref D]) (fun zz s' => Q (.ref D) s') E { s with heap := h } := by
 have hD := N.get (.head _)
 have hDL := (N _ (.head _)).2.1
 have hD0 := (N _ (.head _)).2.2
 refine wpAny_call_entry slot_list_sort ⟨_, hD, rfl⟩ entry_list_sort (list_sort_tree hD hI h64 fun out ns' a1 a2 a3 => ⟨_, rfl, ?_⟩) (args_list_sort _)
 obtain ⟨e, he⟩ := sortedHeap_at (out := out) hD
 have keep : ∀ b o, b ≠ D → h.get? b = some o → (sortedHeap h D vs out).get? b = some o := fun b o hb hg => (sortedHeap_old hb (Heap.lt_size hg)).trans hg
 refine q (sortedHeap h D vs out) out.toList ns' e (frBut F keep hDL hD0) (fun p hp => ?_) a1 a2 a3
 rcases List.mem_cons.mp hp with rfl | hp
 · exact ⟨he, hDL, hD0⟩
 · have hh := N p (.tail _ hp)
   exact ⟨keep _ _ (Nat.ne_of_lt (lt p hp)) hh.1, hh.2.1, hh.2.2⟩
theorem ints_of : ∀ {vs : List Value} {is : List Int}, vs.length = is.length → (∀ (j : Nat) (v : Value), vs[j]? = some v → ∃ i t, is[j]? = some i ∧ v = .int i t) → IntsAre vs is
 | [], [], _, _ => .nil
 | v :: vs, i :: is, hl, h => by
  obtain ⟨i', t, e, rfl⟩ := h 0 v rfl
  cases e
  exact .cons _ _ (ints_of (by simpa using hl) fun j u hu => by simpa using h (j + 1) u (by simpa using hu))
 | [], _ :: _, hl, _ => by simp at hl
 | _ :: _, [], hl, _ => by simp at hl
theorem rvs_ints {G : Led} {ad : List Addr} : ∀ {vs : List Value} {is : List Int}, IntsAre vs is → Rvs S G ad (is.map .int) vs := fun r => by
 induction r with
 | nil => exact .nil
 | cons i t r ih => exact .cons (.int i t) ih
theorem keys_int {G : Led} {ad : List Addr} : ∀ {l : List (V × V)} {kvs : List (Int × Value)}, All2 (IntP S G ad) l kvs → keys l = (kvs.map (·.1)).map .int
 | _, _, .nil => rfl
 | (a, v) :: l, (j, cv) :: kvs, .cons h r => by
  have h1 : a = .int j := h.1
  subst h1
  show V.int j :: keys l = _
  rw [keys_int r]; rfl
theorem keysU_ok {l : List (V × V)} {r : List V} (h : keysU l = .at r) : uniq l = true ∧ l.length ≤ 63 ∧ r = keys l := by
 have h : (Bool.rec .no (Bool.rec .no (.at (keys l)) (Nat.ble (len l) 63)) (uniq l) : OL (List V)) = .at r := h
 cases q : uniq l with
 | false => rw [q] at h; cases h
 | true =>
  rw [q] at h
  cases q2 : Nat.ble (len l) 63 with
  | false =>
   have h : (Bool.rec .no (.at (keys l)) (Nat.ble (len l) 63) : OL (List V)) = .at r := h
   rw [q2] at h; cases h
  | true =>
   have h : (Bool.rec .no (.at (keys l)) (Nat.ble (len l) 63) : OL (List V)) = .at r := h
   rw [q2] at h; cases h
   exact ⟨rfl, by have := Nat.le_of_ble_eq_true q2; rwa [len_eq] at this, rfl⟩
theorem onL_ok {α : Type} {o : OL (List V)} {k : Nat} {f : List V → R α} {a : α} {s : St} (h : onL o (.bad k) f = .ok a s) : ∃ l, o = .at l ∧ f l = .ok a s := by
 cases o with
 | no => cases h
 | «at» l => exact ⟨l, rfl, h⟩
theorem sorted_dict {A : Around} {E : Value → Shared → Prop} {Q : Value → Shared → Prop} {h₀ : Heap} {L : Addr} {m : PySem.Str → Option Value} {news : Led} {a : Addr} {kvs : List (Int × Value)} {s : Shared}
 (hh : A.handled = none) (F : Fr h₀ L s.heap m) (N : News h₀ L s.heap news) (hs : (a == sysModules) = false) (hd : s.heap.DictOf (PySem.intKind S.prog S.w) a kvs) (h63 : kvs.length ≤ 63)
 (q : ∀ h' tk D (vs' : List Value) (is' : List Int) e, Fr h₀ L h' m → News h₀ L h' ((D, lstOf vs' e) :: news) → (∀ q ∈ news, q.1 < D) → IntsAre vs' is' → is'.Perm (kvs.map (·.1)) → is'.Pairwise (· ≤ ·) → Q (.ref D) { s with heap := h', toks := tk }) :
 wpAny (model S.prog S.w) A (call (.builtin "sorted") [.ref a]) Q E s := by
 obtain ⟨ep, hat⟩ := hd.dictAt
 refine kdu_sorted (kdl_dict (knd := PySem.intKind S.prog S.w) (kvs := kvs) (ep := ep) hs) hh F N hat (by rw [sizeLine_eq]; omega) fun D h' tk vs F' N' lt hl hv => ?_
 have hI : IntsAre vs (kvs.map (·.1)) := by
  refine ints_of (by simpa using hl) fun j v hj => ?_
  obtain ⟨k, x, hx, hk⟩ := hv j v hj
  obtain ⟨t, rfl⟩ : ∃ t, v = .int k t := by
   have hk : Value.isInt k v = true := hk
   cases v with
   | int i t => have : i = k := eq_of_beq hk; subst this; exact ⟨t, rfl⟩
   | _ => cases hk
  exact ⟨k, t, by simp [hx], rfl⟩
 exact sort_made (s := { s with toks := tk }) F' N' lt hI (by omega) fun h2 vs2 is2 e F2 N2 i2 p2 o2 => q h2 tk D vs2 is2 e F2 N2 lt i2 p2 o2
theorem Rel.sysNe {env : PySem.Env} {h₀ : Heap} {m : PySem.Str → Option Value} {G D C : Led} {ad : List Addr} {ρ : Env} {st : St} {s : Shared} (R : Rel S ns env h₀ m G D C ad ρ st s) (F : Fix S sc ns env h₀) {a : Addr} {o : Obj} (h : (a, o) ∈ G ++ (D ++ C)) : (a == sysModules) = false := by
 obtain ⟨o', ho⟩ := F.sysm
 have h1 := (R.nw _ h).2.2
 simp only [beq_eq_false_iff_ne, ne_eq]
 rintro rfl
 rw [ho] at h1; cases h1
theorem Obs.sysNe {env : PySem.Env} {h₀ : Heap} {m : PySem.Str → Option Value} {G D C : Led} {ad : List Addr} {ρ : Env} {st : St} {s : Shared} (hK : ∀ es nn, S.K.lookup sysModules ≠ some (dictOf es nn)) (R : Rel S ns env h₀ m G D C ad ρ st s) (F : Fix S sc ns env h₀) {a : Addr} {es : List DictEntry} {nn : Nat} (h : Obs S G a (dictOf es nn)) : (a == sysModules) = false := by
 rcases h with h | h
 · exact R.sysNe F (List.mem_append_left _ h)
 · simp only [beq_eq_false_iff_ne, ne_eq]
   rintro rfl
   exact hK _ _ h
theorem sort_keys {l : List (V × V)} {r r' : List V} {kvs : List (Int × Value)} {is' : List Int} {G : Led} {ad : List Addr} (h1 : keysU l = .at r) (h2 : sortV r = .at r') (k2 : All2 (IntP S G ad) l kvs) (p : is'.Perm (kvs.map (·.1))) (o : is'.Pairwise (· ≤ ·)) : r' = is'.map .int := by
 obtain ⟨u1, u2, rfl⟩ := keysU_ok h1
 obtain ⟨is, js, e1, e2, p1, o1⟩ := sortV_ok h2
 rw [keys_int k2] at e1
 have inj : ∀ a b : List Int, a.map V.int = b.map V.int → a = b := by
  intro a
  induction a with
  | nil => intro b h; cases b with
   | nil => rfl
   | cons _ _ => cases h
  | cons x a ih => intro b h; cases b with
   | nil => cases h
   | cons y b =>
    rw [List.map_cons, List.map_cons] at h
    injection h with h1 h2
    injection h1 with h1
    rw [h1, ih b h2]
 have e1 : kvs.map (·.1) = is := inj _ _ e1
 subst e1
 subst e2
 rw [List.Perm.eq_of_pairwise (fun a b zz zz h1 h2 => Int.le_antisymm h1 h2) o1 o (p1.trans p.symm)]
theorem sort_int {l : List (V × V)} {r r' : List V} (h1 : keysU l = .at r) (h2 : sortV r = .at r') : sameK (.int 0) l = true := by
 obtain ⟨u1, u2, rfl⟩ := keysU_ok h1
 obtain ⟨is, js, e1, -⟩ := sortV_ok h2
 cases l with
 | nil => rfl
 | cons p l =>
  obtain ⟨a, v⟩ := p
  cases is with
  | nil => cases e1
  | cons i is =>
   have e1 : a :: keys l = .int i :: is.map .int := e1
   injection e1 with e1 _
   subst e1
   rcases uniq_kind u1 with h | h
   · exact h
   · obtain ⟨h3, -⟩ := sameK_cons h
     cases h3
def sortedF (v : V) (s : St) : R V := onL (sortedOf v s) (.bad 17) fun l => OL.rec (.bad 16) (fun r => .ok (.lst r) s) (sortV l)
theorem blt_sorted (hK : ∀ es nn, S.K.lookup sysModules ≠ some (dictOf es nn)) : Blt S n sc ns (.builtin "sorted") (f1 sortedF) := Blt.one fun {A E Q env h₀ m G D C ad ρ st s v c w st'} hA F R r h q => by
 obtain ⟨l, e, h1⟩ := onL_ok h
 obtain ⟨r', e2, h2⟩ := ol_ok (o := sortV l) h1
 cases h2
 cases r with
 | dct l' es a k o rd =>
  have e : keysU l' = .at l := e
  have hi := sort_int e e2
  obtain ⟨u1, u2, -⟩ := keysU_ok e
  obtain ⟨kvs, k1, k2⟩ := dict_int_of (s := s) rd hi u1 (R.obs F o)
  refine sorted_dict hA.hd R.fr R.nw (Obs.sysNe hK R F o) k1 (by rw [← k2.length]; exact u2) fun h' tk D' vs' is' e' F' N' lt i2 p2 o2 => ?_
  rw [sort_keys e e2 k2 p2 o2] at q
  exact q _ _ _ _ _ (R.more tk F' N' lt) (List.subset_cons_self _ _) (List.prefix_refl _) (.lst _ _ _ e' (.inl (.head _)) (rvs_ints i2))
 | ref i a ea =>
  have e : onO (.ref i) st .no (fun zz zz => .no) (fun zz => .no) (fun l => keysU l) = .at l := e
  obtain ⟨t, kk⟩ := st
  have e : (OL.rec .no (fun o => O.rec (fun zz zz => .no) (fun zz => .no) (fun l => keysU l) o) (getT t i) : OL (List V)) = .at l := e
  rw [getT_eq] at e
  cases qa : atT t i with
  | none => rw [qa] at e; cases e
  | some ob =>
   rw [qa] at e
   cases ob with
   | inst _ _ => cases e
   | list _ => cases e
   | dict l' =>
    have e : keysU l' = .at l := e
    have hi := sort_int e e2
    obtain ⟨u1, u2, -⟩ := keysU_ok e
    obtain ⟨a', d, ob, x1, x2, x3⟩ := R.hp.2.2 i _ qa
    rw [ea] at x1; cases x1
    cases x3 with
    | dict _ es _ nn rd =>
     have hm : (a, dictOf es nn) ∈ G ++ (D ++ C) := List.mem_append_right _ (List.mem_append_left _ (List.mem_of_getElem? x2))
     obtain ⟨kvs, k1, k2⟩ := dict_int_of (s := s) rd hi u1 (R.nw.get hm)
     refine sorted_dict hA.hd R.fr R.nw (R.sysNe F hm) k1 (by rw [← k2.length]; exact u2) fun h' tk D' vs' is' e' F' N' lt i2 p2 o2 => ?_
     rw [sort_keys e e2 k2 p2 o2] at q
     exact q _ _ _ _ _ (R.more tk F' N' lt) (List.subset_cons_self _ _) (List.prefix_refl _) (.lst _ _ _ e' (.inl (.head _)) (rvs_ints i2))
 | _ => cases e
theorem intP_mono {G G' : Led} {ad : List Addr} (k : G ⊆ G' := by exact List.subset_cons_self _ _) : ∀ {l : List (V × V)} {kvs : List (Int × Value)}, All2 (IntP S G ad) l kvs → All2 (IntP S G' ad) l kvs := fun r => by
 induction r with
 | nil => exact .nil
 | cons h r ih => exact .cons ⟨h.1, h.2.mono k (List.prefix_refl _)⟩ ih
def dictF (v : V) (s : St) : R V := bDict (fun zz s => .ok v s) .nil s
theorem blt_dict (hK : ∀ es nn, S.K.lookup sysModules ≠ some (dictOf es nn)) : Blt S n sc ns (.type "dict") (f1 dictF) := Blt.one fun {A E Q env h₀ m G D C ad ρ st s v c w st'} hA F R r h q => by
 cases r with
 | dct l es a k o rd =>
  obtain ⟨kk, e, h1⟩ := ol_ok (o := keysU l) h
  obtain ⟨hi, h2⟩ := bt_ok h1
  cases h2
  obtain ⟨u1, u2, -⟩ := keysU_ok e
  obtain ⟨kvs, k1, k2⟩ := dict_int_of (s := s) rd hi u1 (R.obs F o)
  refine kt_call_dict (Obs.sysNe hK R F o) k1 (by rw [← k2.length, sizeLine_eq]; omega) fun h' hd' hs' => ?_
  have N1 := News.push R.fr R.nw { cls := .type "dict", data := .dict #[] }
  obtain ⟨o', ho', es', ep, x1, x2, x3, x4, x5⟩ := Heap.dictOf_iff.mp hd'
  have eo : o' = dictOf es'.toList ep := by
   obtain ⟨c1, d1, t1, sl1⟩ := o'
   obtain ⟨y1, y2, y3⟩ := x1
   have y1 : c1 = .type "dict" := y1
   have y2 : d1 = none := y2
   have y3 : sl1 = #[] := y3
   have x2 : t1 = .dict es' ep := x2
   subst y1; subst y2; subst y3; subst x2
   simp
  subst eo
  refine q _ _ _ _ _ (R.more (h' := h') s.toks ((R.fr.push _).change hs' (N1 _ (.head _)).2.1 (N1.fresh (.head _))) (N1.setHead R.nw.apart hs' ho') R.lt) (List.subset_cons_self _ _) (List.prefix_refl _) (.dct _ _ _ ep (.inl (.head _)) ?_)
  have hlist : es'.toList.toArray = es' := by simp
  exact rds_int x4 (fun e he => x3 e (by simpa using he)) (intP_mono (List.subset_cons_self _ _) k2)
 | _ => cases h
end
end
end Mine
end
section
namespace Mine
open PySem PySem.SeqAt
open PySem PyProof
def IdxAt (A : Around) (s : Shared) (x : Value) (j : Nat) : Nat → List Value → Prop
 | _, [] => False
 | i, y :: ys => (EqAt A s y x true ∧ j = i) ∨ (EqAt A s y x false ∧ IdxAt A s x j (i + 1) ys)
theorem IdxAt.lt {A : Around} {s : Shared} {x : Value} {j : Nat} : ∀ {i : Nat} {ys : List Value}, IdxAt A s x j i ys → j < i + ys.length
 | i, y :: ys, .inl ⟨_, e⟩ => by simp; omega
 | i, y :: ys, .inr ⟨_, h⟩ => by have := h.lt; simp; omega
set_option maxHeartbeats 1000000 in
theorem tuple_indexAt (l : Addr) (items : Array Value) (n : Nat) (x : Value) (j : Nat) :
 Meets (Builtin.«tuple.index» ⟨[.ref l, x], []⟩)
  (fun A R s => s.heap.get? l = some { cls := .type "tuple", data := .seq items n } ∧ IdxAt A.in1 s x j 0 items.toList ∧ R (.ok (.ret (.int j s.toks))) { s with toks := s.toks + 1 }) :=
 .of_wp fun prog w A R s h => by
  obtain ⟨hp, g, d, tk, os⟩ := s; obtain ⟨hl, he, h⟩ := h
  have f2 := AutoSeq1.sub_tuple_tuple
  unfold Builtin.«tuple.index»
  simp only [Std.Legacy.Range.forIn_eq_forIn_range', Std.Legacy.Range.size]
  wp_walk using wpAny_loadPart' hl, wpAny_forIn_list _ (fun rest b s' => b.1 = none ∧ s' = ⟨hp, g, d, tk, os⟩ ∧ ∃ i, rest = List.range' i (items.size - i) ∧ IdxAt A.in1 ⟨hp, g, d, tk, os⟩ x j i (items.toList.drop i)) _
  case turn =>
   rintro y rest b s' ⟨hb', rfl, i, hr, hx⟩
   have hi : i < items.size := by
    have := congrArg List.length hr
    simp at this; omega
   have e1 : items.size - i = (items.size - (i + 1)) + 1 := by omega
   rw [e1, List.range'_succ] at hr
   injection hr with hr1 hr2
   subst hr1
   have e2 : items[y]? = some items[y] := by simp [hi]
   have e3 : items.toList.drop y = items[y] :: items.toList.drop (y + 1) := by
    rw [List.drop_eq_getElem_cons (by simpa using hi)]; simp
   rw [e3] at hx
   rw [e2]
   dsimp only
   rcases hx with ⟨h1, h2⟩ | ⟨h1, h2⟩
   · subst h2
     refine wpAny_bind (h1 prog w _ _ ?_)
     wp_walk
     exact ⟨_, rfl, h⟩
   · refine wpAny_bind (h1 prog w _ _ ?_)
     wp_walk
     exact ⟨rfl, rfl, y + 1, hr2, h2⟩
  case fin =>
   rintro ⟨b1, b2⟩ s' ⟨hb', rfl, i, hr, hx⟩
   exfalso
   have h1 := hx.lt
   cases q : items.toList.drop i with
   | nil => rw [q] at hx; exact hx
   | cons a b =>
    have h2 := congrArg List.length q
    have h3 := congrArg List.length hr
    simp at h2 h3; omega
  case h =>
   exact ⟨rfl, rfl, 0, by simp, by simpa using he⟩
end Mine
end
section
namespace Mine
open PySem PySem.W PySem.Calls PyProof.Rows
def owners : List String := ["enumerate", "zip", "dict_itemiterator", "dict_reverseitemiterator", "odict_iterator", "itertools.zip_longest", "itertools.pairwise"]
def Odd (o : Obj) : Prop := ∃ T : String, o.cls = .type T ∧ T ≠ "tuple" ∧ T ≠ "list" ∧ T ≠ "dict" ∧ owners.contains T = false
def Good (S : Stage) (o : Obj) : Prop := (∃ vs n, o = tupOf vs n) ∨ (∃ vs n, o = lstOf vs n) ∨ (∃ es n, o = dictOf es n) ∨ ∃ c d, o = instObj (S.cls c) d
theorem Odd.not {S : Stage} {o : Obj} (h : Odd o) : ¬ Good S o := by
 obtain ⟨T, e, h1, h2, h3, -⟩ := h
 rintro (⟨vs, n, rfl⟩ | ⟨vs, n, rfl⟩ | ⟨es, n, rfl⟩ | ⟨c, d, rfl⟩)
 · exact h1 (by injection e with e; exact e.symm)
 · exact h2 (by injection e with e; exact e.symm)
 · exact h3 (by injection e with e; exact e.symm)
 · cases e
theorem letGo_odd {M : Model} {A : Around} {E : Value → Shared → Prop} {Q : Unit → Shared → Prop} {s : Shared} {target : PySem.Expr} {I : Addr} {v : Value} {o : Obj} (ho : s.heap.get? I = some o) (h : Odd o) (q : Q () s) : wpAny M A (letOwnedTupleGo target (.ref I) v) Q E s := by
 obtain ⟨T, e, -, -, -, h4⟩ := h
 have key : wpAny M A (do
  let o ← load I
  match o.cls, o.data with
  | .type n, .fields vs =>
   if owners.contains n && vs[0]? == some (match v with | .ref a => rawInt a | _ => .none) then do
    rule "for.unpacks-the-owned-tuple"
    updateField I 0 .none
   else pure ()
  | _, _ => pure () : Sem Unit) Q E s := by
  refine wpAny_bind (wpAny_load ho ?_)
  rw [e]
  cases o.data with
  | fields vs =>
   show wpAny M A (if (owners.contains T && _) = true then _ else _) Q E s
   rw [h4, Bool.false_and, if_neg Bool.false_ne_true]
   exact wpAny_pure q
  | _ => exact wpAny_pure q
 unfold letOwnedTupleGo
 cases target <;> first | exact wpAny_pure q | (cases v <;> first | exact wpAny_pure q | exact key)
noncomputable section
section
variable {S : Stage} {n : Nat} {sc : Scope} {ns : List (Option PySem.Str)}
section
variable {env : PySem.Env} {h₀ : Heap} {m : PySem.Str → Option Value} {G G' D C : Led} {ad : List Addr} {ρ : Env} {st : St} {s : Shared}
theorem Rv.via {v : V} {c : Value} (k : ∀ a o, Good S o → Obs S G a o → Obs S G' a o) (h : Rv S G ad v c) : Rv S G' ad v c := h.gen (fun zz zz zz => k _ _ (.inl ⟨_, _, rfl⟩)) (fun zz zz zz => k _ _ (.inr (.inl ⟨_, _, rfl⟩))) (fun zz zz zz => k _ _ (.inr (.inr (.inl ⟨_, _, rfl⟩)))) fun zz zz e => e
theorem Rvs.via {v : List V} {c : List Value} (k : ∀ a o, Good S o → Obs S G a o → Obs S G' a o) (h : Rvs S G ad v c) : Rvs S G' ad v c := h.ind .nil (fun a zz r => .cons (a.via k) r)
theorem Rds.via {v : List (V × V)} {c : List DictEntry} (k : ∀ a o, Good S o → Obs S G a o → Obs S G' a o) (h : Rds S G ad v c) : Rds S G' ad v c := h.ind .nil (fun q a zz r => .cons q (a.via k) r)
theorem AtRel.via {c : Nat} {f : Env} {es : List DictEntry} (k : ∀ a o, Good S o → Obs S G a o → Obs S G' a o) (h : AtRel S G ad c f es) : AtRel S G' ad c f es :=
 ⟨h.1, fun i v e => let ⟨x, cv, a, b, r⟩ := h.2 i v e; ⟨x, cv, a, b, r.via k⟩⟩
theorem ObRel.via {o : O} {a d : Addr} {ob : Obj} (k : ∀ a o, Good S o → Obs S G a o → Obs S G' a o) (h : ObRel S G ad o a d ob) : ObRel S G' ad o a d ob := by
 cases h with
 | inst c f a d es n x y => exact .inst c f a d es n (k _ _ (.inr (.inr (.inr ⟨_, _, rfl⟩))) x) (y.via k)
 | list l vs a n x => exact .list l vs a n (x.via k)
 | dict l es a n x => exact .dict l es a n (x.via k)
theorem HpRel.via (k : ∀ a o, Good S o → Obs S G a o → Obs S G' a o) (h : HpRel S G D ad st) : HpRel S G' D ad st :=
 ⟨h.1, h.2.1, fun i o e => let ⟨a, d, ob, x, y, z⟩ := h.2.2 i o e; ⟨a, d, ob, x, y, z.via k⟩⟩
theorem ERel.via (k : ∀ a o, Good S o → Obs S G a o → Obs S G' a o) (h : ERel S env m C G ad ns ρ) : ERel S env m C G' ad ns ρ :=
 fun i v x e f => let ⟨cv, b, r⟩ := h i v x e f; ⟨cv, b, r.via k⟩
def Led.no (I : Addr) (G : Led) : Led := G.filter fun p => !(p.1 == I)
theorem mem_no {I : Addr} {p : Addr × Obj} : p ∈ Led.no I G ↔ p ∈ G ∧ p.1 ≠ I := by simp [Led.no]
theorem no_via {I : Addr} {oI : Obj} {h : Heap} (N : ∀ p ∈ G, h.get? p.1 = some p.2) (hI : (I, oI) ∈ G) (ho : Odd oI) : ∀ a o, Good S o → Obs S G a o → Obs S (Led.no I G) a o := by
 rintro a o hg (hm | hm)
 · refine .inl (mem_no.mpr ⟨hm, ?_⟩)
   rintro rfl
   have h1 := N _ hm
   have h2 := N _ hI
   rw [h1] at h2
   cases h2
   exact ho.not hg
 · exact .inr hm
theorem sub_no {I : Addr} (h : G ⊆ G') (k : ∀ p ∈ G, p.1 ≠ I) : G ⊆ Led.no I G' := fun p hp => mem_no.mpr ⟨h hp, k p hp⟩
theorem Rel.gvia (R : Rel S ns env h₀ m G D C ad ρ st s) {I : Addr} {oI : Obj} (hI : (I, oI) ∈ G) (ho : Odd oI) : ∀ a o, Good S o → Obs S G a o → Obs S (Led.no I G) a o :=
 no_via (h := s.heap) (fun p hp => (R.nw p (List.mem_append_left _ hp)).1) hI ho
theorem Rel.drop (R : Rel S ns env h₀ m G D C ad ρ st s) {I : Addr} {oI : Obj} (hI : (I, oI) ∈ G) (ho : Odd oI) {h' : Heap} (t : Tok) (hk : ∀ b o, b ≠ I → s.heap.get? b = some o → h'.get? b = some o) :
 Rel S ns env h₀ m (Led.no I G) D C ad ρ st { s with heap := h', toks := t } := by
 have hi := R.nw _ (List.mem_append_left _ hI)
 have via := R.gvia hI ho
 refine ⟨frBut R.fr hk hi.2.1 hi.2.2, fun p hp => ?_, fun p hp q hq => R.gd p (mem_no.mp hp).1 q hq, R.nod, R.hp.via via, R.er.via via, R.gens, R.drawn, R.os, R.cl⟩
 rcases List.mem_append.mp hp with hp | hp
 · have h1 := R.nw p (List.mem_append_left _ (mem_no.mp hp).1)
   exact ⟨hk _ _ (mem_no.mp hp).2 h1.1, h1.2⟩
 · have h1 := R.nw p (List.mem_append_right _ hp)
   exact ⟨hk _ _ (Ne.symm (R.gd _ hI p hp)) h1.1, h1.2⟩
theorem Rel.add (R : Rel S ns env h₀ m G D C ad ρ st s) {I : Addr} {o : Obj} (ho : s.heap.get? I = some o) (hL : I ≠ env.locals) (h0 : h₀.get? I = none) (hd : ∀ q ∈ D ++ C, I ≠ q.1) : Rel S ns env h₀ m ((I, o) :: G) D C ad ρ st s :=
 ⟨R.fr, fun p hp => by
  rcases List.mem_cons.mp hp with rfl | hp
  · exact ⟨ho, hL, h0⟩
  · exact R.nw p hp, fun p hp q hq => by
  rcases List.mem_cons.mp hp with rfl | hp
  · exact hd q hq
  · exact R.gd p hp q hq, R.nod, R.hp.mono (List.subset_cons_self _ _), R.er.mono (List.subset_cons_self _ _) (List.prefix_refl _), R.gens, R.drawn, R.os, R.cl⟩
end
structure Wk (S : Stage) (I : Addr) (h : OL V) (l : List V) (G₀ : Led) (ad₀ : List Addr) (T : Nat → Obj → Prop) : Prop where
 odd : ∀ i o, T i o → Odd o
 item : ∀ {A : Around} {E : Value → Shared → Prop} {Q : Option Value → Shared → Prop} {sc ns env h₀ m G D C ad ρ st s i o x v}, A.handled = none → Fix S sc ns env h₀ → Rel S ns env h₀ m G D C ad ρ st s → G₀ ⊆ G → ad₀ <+: ad → (I, o) ∈ G → T i o →
  l[i]? = some x → rd h i x st = .at v →
  (∀ h' tk o' cv, (∀ b o, b ≠ I → s.heap.get? b = some o → h'.get? b = some o) → h'.get? I = some o' → T (i + 1) o' → Rv S G ad v cv → Q (some cv) { s with heap := h', toks := tk }) → wpAny (model S.prog S.w) A (pyNext (.ref I)) Q E s
 done : ∀ {A : Around} {E : Value → Shared → Prop} {Q : Option Value → Shared → Prop} {sc ns env h₀ m G D C ad ρ st s o}, A.handled = none → Fix S sc ns env h₀ → Rel S ns env h₀ m G D C ad ρ st s → G₀ ⊆ G → ad₀ <+: ad → (I, o) ∈ G → T l.length o →
  fin h l.length st = true → (∀ h' tk, (∀ b o, b ≠ I → s.heap.get? b = some o → h'.get? b = some o) → Q none { s with heap := h', toks := tk }) → wpAny (model S.prog S.w) A (pyNext (.ref I)) Q E s
 self : ∀ {A : Around} {E : Value → Shared → Prop} {Q : Value → Shared → Prop} {sc ns env h₀ m G D C ad ρ st s i o}, Fix S sc ns env h₀ → Rel S ns env h₀ m G D C ad ρ st s → G₀ ⊆ G → (I, o) ∈ G → T i o → Q (.ref I) s → wpAny (model S.prog S.w) A (pyIter (.ref I)) Q E s
theorem Wk.of_walks {I : Addr} {l : List V} {G₀ : Led} {ad₀ : List Addr} {fp : List Addr} {P : Nat → Value → Prop} {Sn : Nat → Heap → Prop} (W : ∀ A : Around, A.handled = none → Walks S.prog S.w A I fp [I] l.length P Sn)
 (hfp : ∀ b ∈ fp, b ≠ I → ∃ o, Obs S G₀ b o) (hT : ∀ i h, Sn i h → ∃ o, h.get? I = some o ∧ Odd o) (hP : ∀ i v x, P i v → l[i]? = some x → Rv S G₀ ad₀ x v)
 (hself : ∀ i (A : Around) (s : Shared) (Q : Value → Shared → Prop) (E : Value → Shared → Prop), Sn i s.heap → Q (.ref I) s → wpAny (model S.prog S.w) A (pyIter (.ref I)) Q E s) :
 Wk S I .no l G₀ ad₀ fun i o => Odd o ∧ ∀ h : Heap, h.get? I = some o → (∀ b ∈ fp, b ≠ I → ∀ ob, Obs S G₀ b ob → h.get? b = some ob) → Sn i h := by
 have key : ∀ {sc ns env h₀ m G D C ad ρ st s i o}, Fix S sc ns env h₀ → Rel S ns env h₀ m G D C ad ρ st s → G₀ ⊆ G → (I, o) ∈ G → (∀ h : Heap, h.get? I = some o → (∀ b ∈ fp, b ≠ I → ∀ ob, Obs S G₀ b ob → h.get? b = some ob) → Sn i h) → Sn i s.heap :=
  fun F R g hI h => h _ (R.nw.get (List.mem_append_left _ hI)) fun b zz zz ob hb => R.obs F (hb.mono g)
 refine ⟨fun zz zz h => h.1, fun {A E Q sc ns env h₀ m G D C ad ρ st s i o x v} hA F R g p hI hT' hx hr q => ?_, fun {A E Q sc ns env h₀ m G D C ad ρ st s o} hA F R g p hI hT' hf q => ?_, fun {A E Q sc ns env h₀ m G D C ad ρ st s i o} F R g hI hT' q => ?_⟩
 · cases hr
   have hi : i < l.length := (List.getElem?_eq_some_iff.mp hx).1
   refine (W A hA).item i s Q E hi (key F R g hI hT'.2) fun cv h' tk hp hs hk => ?_
   obtain ⟨o', ho', odd'⟩ := hT _ _ hs
   refine q h' tk o' cv (fun b o hb e => hk b o (by simpa using hb) e) ho' ⟨odd', fun h2 e2 hb2 => (W A hA).frame _ _ _ hs fun b hb ob eb => ?_⟩ ((hP _ _ _ hp hx).mono g p)
   by_cases hbI : b = I
   · subst hbI; rw [ho'] at eb; cases eb; exact e2
   · obtain ⟨ob', hob⟩ := hfp b hb hbI
     have e1 := hk b ob' (by simpa using hbI) (R.obs F (hob.mono g))
     rw [e1] at eb; cases eb
     exact hb2 b hb hbI _ hob
 · exact (W A hA).done s Q E (key F R g hI hT'.2) fun h' tk hk => q h' tk fun b o hb e => hk b o (by simpa using hb) e
 · exact hself i A s Q E (key F R g hI hT'.2) q
structure SI (S : Stage) (n : Nat) (sc : Scope) (ns : List (Option PySem.Str)) (e : PySem.Expr) (d : DI) : Prop where I ::
 go : ∀ {A : Around} {E : Value → Shared → Prop} {Q : Value → Shared → Prop} {env h₀ m G D C ad ρ st s h l st'}, Room n A → Fix S sc ns env h₀ → Rel S ns env h₀ m G D C ad ρ st s → d ρ st = .ok (.mk h l) st' →
  (∀ s' G' D' ad' I o T, Rel S ns env h₀ m ((I, o) :: G') D' C ad' ρ st' s' → G ⊆ G' → ad <+: ad' → (∀ p ∈ G', p.1 ≠ I) → Wk S I h l G' ad' T → T 0 o → Q (.ref I) s') →
  wpAny (model S.prog S.w) A (eval e env) (fun x s₁ => wpAny (model S.prog S.w) A (pyIter x) Q E s₁) E s
theorem forL_cons {h : OL V} {a : DA} {b : DS} {x : V} {l : List V} {i : Nat} {ρ : Env} {st : St} : forL h a b (x :: l) i ρ st = OL.rec (.bad 44) (fun v => RS.rec (fun ρ s => RS.rec (fun ρ s => forL h a b l (Nat.succ i) ρ s) (fun v s => .ret v s) (fun ρ s => forL h a b l (Nat.succ i) ρ s) .bad (b ρ s)) (fun v s => .ret v s) (fun ρ s => .cont ρ s) .bad (a v ρ st)) (rd h i x st) := rfl
theorem forL_nil {h : OL V} {a : DA} {b : DS} {i : Nat} {ρ : Env} {st : St} : forL h a b [] i ρ st = Bool.rec (.bad 44) (.next ρ st) (fin h i st) := rfl
end
end
end Mine
end
section
namespace Mine
open PySem PySem.W PySem.Calls PyProof.Rows
noncomputable section
section
variable {S : Stage} {n : Nat} {sc : Scope} {ns : List (Option PySem.Str)}
structure Turn (S : Stage) (ns : List (Option PySem.Str)) (env : PySem.Env) (h₀ : Heap) (I : Addr) (h : OL V) (l : List V) (G₀ C₀ : Led) (ad₀ : List Addr) (T : Nat → Obj → Prop) (i : Nat) (ρ : Env) (st : St) (s : Shared) (m : PySem.Str → Option Value) (G D C : Led) (ad : List Addr) (o : Obj) : Prop where
 rel : Rel S ns env h₀ m ((I, o) :: G) D C ad ρ st s
 sub : G₀ ⊆ G
 pre : ad₀ <+: ad
 ne : ∀ p ∈ G, p.1 ≠ I
 cs : C.map (·.1) = C₀.map (·.1)
 at_ : T i o
inductive FLI (S : Stage) (ns : List (Option PySem.Str)) (env : PySem.Env) (h₀ : Heap) (I : Addr) (h : OL V) (l : List V) (G C : Led) (ad : List Addr) (T : Nat → Obj → Prop) (f : List V → Nat → Env → St → RS) (r : RS) (j : Nat) (s2 : Shared) : Prop
 | mk (i : Nat) (m2 : PySem.Str → Option Value) (G2 D2 C2 : Led) (ad2 : List Addr) (ρ2 : Env) (st2 : St) (o2 : Obj) (x1 : j = l.length - i) (x2 : i ≤ l.length) (x3 : Turn S ns env h₀ I h l G C ad T i ρ2 st2 s2 m2 G2 D2 C2 ad2 o2) (x4 : f (l.drop i) i ρ2 st2 = r) : FLI S ns env h₀ I h l G C ad T f r j s2
theorem S1.forS {x : PySem.Str} {px pos : Pos} {iter : PySem.Expr} {body : List Stmt} {k : Nat} {d : DI} {b : DS} (hi : SI S n sc ns iter d) (hb : SS S n sc ns body b) (e : ns[k]? = some (some x) := by kernel_rfl) (hk : sc.names.lookup x = some .local ∨ sc.names.lookup x = some .cell := by exact .inl (by kernel_rfl))
 (hs : ∀ env x, foldedSetIterable iter env x = pure x := by intro _ _; rfl) :
 S1 S n sc ns (.For (.Name x px) iter body [] pos) (forS (aN k) d b) := by
 refine ⟨?_⟩
 intro A E Q env h₀ m G D C ad ρ st s hA F R hbad q
 obtain ⟨⟨h, l⟩, s1, e1, eq⟩ := RS_ok hbad
 have eq : Mine.forS (aN k) d b ρ st = forL h (aN k) b l 0 ρ s1 := eq
 have hbad : ∀ j, Mine.forS (aN k) d b ρ st ≠ .bad j := hbad
 rw [eq] at hbad q
 refine wpAny_For (hi.go hA F R e1 fun s' G' D' ad' I o T R1 g1 p1 hne W hT => ?_) (hs _)
 refine codeAny_forLoop_any (FLI S ns env h₀ I h l G' C ad' T (forL h (aN k) b) (forL h (aN k) b l 0 ρ s1))
  ?_ l.length ⟨0, m, G', D', C, ad', ρ, s1, o, rfl, Nat.zero_le _, ⟨R1, List.Subset.refl _, List.prefix_refl _, hne, rfl, hT⟩, rfl⟩
 rintro j s2 ⟨i, m2, G2, D2, C2, ad2, ρ2, st2, o2, rfl, hil, ⟨R2, g2, p2, hne2, hc2, hT2⟩, heq⟩
 rcases Nat.lt_or_ge i l.length with hlt | hge
 · have hd : l.drop i = l[i] :: l.drop (i + 1) := by rw [List.drop_eq_getElem_cons hlt]
   have hx : l[i]? = some l[i] := by simp [hlt]
   generalize l[i] = x0 at hd hx
   rw [hd, forL_cons] at heq
   cases hr : rd h i x0 st2 with
   | no => rw [hr] at heq; exact absurd heq.symm (hbad _)
   | «at» v =>
    rw [hr] at heq
    have heq : (RS.rec (fun ρ s => forL h (aN k) b (l.drop (i+1)) (Nat.succ i) ρ s) (fun v s => .ret v s) (fun ρ s => forL h (aN k) b (l.drop (i+1)) (Nat.succ i) ρ s) .bad (b (setE k v ρ2) st2) : RS) = forL h (aN k) b l 0 ρ s1 := heq
    refine W.item hA.hd F R2 (List.Subset.trans g2 (List.subset_cons_self _ _)) p2 (.head _) hT2 hx hr fun h' tk o' cv hk' ho' hT' rv => ?_
    have hi2 := R2.nw _ (List.mem_append_left _ (.head _))
    have R3 := R2.drop (.head _) (W.odd _ _ hT2) tk hk'
    have rv3 := rv.via (R2.gvia (.head _) (W.odd _ _ hT2))
    have hno : Led.no I ((I, o2) :: G2) = G2 := by
     have h1 : Led.no I G2 = G2 := List.filter_eq_self.mpr fun p hp => by simpa using hne2 p hp
     show List.filter _ _ = _
     rw [List.filter_cons_of_neg (by simp)]; exact h1
    rw [hno] at R3 rv3
    have R4 := R3.add (I := I) (o := o') ho' hi2.2.1 hi2.2.2 (fun q hq => R2.gd _ (.head _) q hq)
    dsimp only
    rw [show letOwnedTupleGo (.Name x px) (.ref I) cv = pure () from rfl]
    refine wpAny_pure (wpAny_assign_Name (store_var F R4 e hk (rv3.mono (List.subset_cons_self _ _) (List.prefix_refl _)) fun s5 m5 C5 R5 hc5 => ?_))
    refine hb.go hA F R5 (fun j hj => by rw [hj] at heq; exact hbad j heq.symm) fun fl s6 hp => ?_
    cases hbb : b (setE k v ρ2) st2 with
    | next ρ6 st6 =>
     rw [hbb] at hp heq
     obtain ⟨rfl, m6, G6, D6, C6, ad6, R6, g6, p6, c6⟩ := hp
     have hI6 : (I, o') ∈ G6 := g6 (.head _)
     have R7 := R6.drop hI6 (W.odd _ _ hT') s6.toks (fun zz zz zz e => e)
     have R8 := R7.add (I := I) (o := o') (R6.nw _ (List.mem_append_left _ hI6)).1 (R6.nw _ (List.mem_append_left _ hI6)).2.1 (R6.nw _ (List.mem_append_left _ hI6)).2.2 (fun q hq => R6.gd _ hI6 q hq)
     refine ⟨l.length - (i + 1), by omega, i + 1, m6, _, D6, C6, ad6, ρ6, st6, o', rfl, hlt, ⟨R8, ?_, p2.trans p6, fun p hp => (mem_no.mp hp).2, c6.trans (hc5.trans hc2), hT'⟩, heq⟩
     exact sub_no (List.Subset.trans g2 (List.Subset.trans (List.subset_cons_self _ _) g6)) (fun p hp => hne2 p (g2 hp))
    | cont ρ6 st6 =>
     rw [hbb] at hp heq
     obtain ⟨rfl, m6, G6, D6, C6, ad6, R6, g6, p6, c6⟩ := hp
     have hI6 : (I, o') ∈ G6 := g6 (.head _)
     have R7 := R6.drop hI6 (W.odd _ _ hT') s6.toks (fun zz zz zz e => e)
     have R8 := R7.add (I := I) (o := o') (R6.nw _ (List.mem_append_left _ hI6)).1 (R6.nw _ (List.mem_append_left _ hI6)).2.1 (R6.nw _ (List.mem_append_left _ hI6)).2.2 (fun q hq => R6.gd _ hI6 q hq)
     refine ⟨l.length - (i + 1), by omega, i + 1, m6, _, D6, C6, ad6, ρ6, st6, o', rfl, hlt, ⟨R8, ?_, p2.trans p6, fun p hp => (mem_no.mp hp).2, c6.trans (hc5.trans hc2), hT'⟩, heq⟩
     exact sub_no (List.Subset.trans g2 (List.Subset.trans (List.subset_cons_self _ _) g6)) (fun p hp => hne2 p (g2 hp))
    | ret w st6 =>
     rw [hbb] at hp heq
     obtain ⟨cw, m6, G6, D6, C6, ad6, rfl, R6, g6, p6, c6, rw6⟩ := hp
     rw [← heq] at q
     refine q (.ret cw) s6 ⟨cw, m6, G6, D6, C6, ad6, rfl, R6, ?_, p1.trans (p2.trans p6), c6.trans (hc5.trans hc2), rw6⟩
     exact List.Subset.trans g1 (List.Subset.trans g2 (List.Subset.trans (List.subset_cons_self _ _) g6))
    | bad j => rw [hbb] at heq; exact absurd heq.symm (hbad _)
 · have hil : i = l.length := Nat.le_antisymm hil hge
   subst hil
   rw [List.drop_length, forL_nil] at heq
   cases hf : fin h l.length st2 with
   | false => rw [hf] at heq; exact absurd heq.symm (hbad _)
   | true =>
    rw [hf] at heq
    have heq : RS.next ρ2 st2 = _ := heq
    refine W.done hA.hd F R2 (List.Subset.trans g2 (List.subset_cons_self _ _)) p2 (.head _) hT2 hf fun h' tk hk' => ?_
    have R3 := R2.drop (.head _) (W.odd _ _ hT2) tk hk'
    dsimp only
    rw [← heq] at q
    refine wpAny_execs_nil (q _ _ ⟨rfl, m2, _, D2, C2, ad2, R3, ?_, p1.trans p2, hc2⟩)
    exact sub_no (List.Subset.trans g1 (List.Subset.trans g2 (List.subset_cons_self _ _))) (fun p hp => hne2 p (g2 (g1 hp)))
end
end
end Mine
end
section
namespace Mine
open PySem PySem.W PySem.Calls PyProof.Rows
noncomputable section
section
variable {S : Stage} {n : Nat} {sc : Scope} {ns : List (Option PySem.Str)}
theorem iter_new {Q : Value → Shared → Prop} {env : PySem.Env} {h₀ : Heap} {m : PySem.Str → Option Value} {G D C : Led} {ad : List Addr} {ρ : Env} {st : St} {s : Shared} {o : Obj} {h : OL V} {l : List V} {T : Nat → Obj → Prop}
 (R : Rel S ns env h₀ m G D C ad ρ st s) (hf : o.isFreed = false) (W : Wk S s.heap.objs.size h l G ad T) (hT : T 0 o)
 (q : ∀ s' G' D' ad' I o T, Rel S ns env h₀ m ((I, o) :: G') D' C ad' ρ st s' → G ⊆ G' → ad <+: ad' → (∀ p ∈ G', p.1 ≠ I) → Wk S I h l G' ad' T → T 0 o → Q (.ref I) s') :
 Q (.ref s.heap.objs.size) { s with heap := s.heap.push o } :=
 q _ G D ad _ o T (R.more s.toks (R.fr.push _) (News.push R.fr R.nw o hf) R.lt) (List.Subset.refl _) (List.prefix_refl _) (fun p hp => Nat.ne_of_lt (R.lt p (List.mem_append_left _ hp))) W hT
theorem wk_tup {I a : Addr} {l : List V} {vs : List Value} {nn : Nat} {G : Led} {ad : List Addr} (o : Obs S G a (tupOf vs nn)) (r : Rvs S G ad l vs) (hne : a ≠ I) : ∃ T, Wk S I .no l G ad T ∧ T 0 { cls := .type "tuple_iterator", data := .fields #[.ref a, .int 0 0] } := by
 have hl : vs.toArray.size = l.length := by simp [r.length]
 refine ⟨_, Wk.of_walks (fp := [I, a]) (P := fun i v => vs.toArray[i]? = some v) (Sn := fun i h => h.IsTupleIter I a i ∧ h.IsTuple a vs.toArray) (fun A hA => hl ▸ Walks.tuple hA I a hne vs.toArray)
  (fun b hb hbI => ?_) (fun i h hs => ?_) (fun i v x hv hx => ?_) (fun i A s Q E hs q => wpAny_pyIter_tupleiter hs.1 q), ⟨"tuple_iterator", rfl, by decide, by decide, by decide, by decide⟩, fun h hI hb => ⟨⟨_, hI, rfl, rfl⟩, _, hb a (by simp) hne _ o, rfl, _, rfl⟩⟩
 · simp at hb
   rcases hb with rfl | rfl
   · exact absurd rfl hbI
   · exact ⟨_, o⟩
 · obtain ⟨⟨o', h1, h2, h3⟩, -⟩ := hs
   exact ⟨o', h1, "tuple_iterator", h2, by decide, by decide, by decide, by decide⟩
 · obtain ⟨c, h1, h2⟩ := r.get hx
   have : vs[i]? = some v := by simpa using hv
   rw [h1] at this; cases this; exact h2
theorem wk_lst {I a : Addr} {l : List V} {vs : List Value} {nn : Nat} {G : Led} {ad : List Addr} (o : Obs S G a (lstOf vs nn)) (r : Rvs S G ad l vs) (hne : a ≠ I) : ∃ T, Wk S I .no l G ad T ∧ T 0 { cls := .type "list_iterator", data := .fields #[.ref a, .int 0 0] } := by
 have hl : vs.toArray.size = l.length := by simp [r.length]
 refine ⟨_, Wk.of_walks (fp := [I, a]) (P := fun i v => vs.toArray[i]? = some v) (Sn := fun i h => h.IsListIter I a i ∧ h.IsList a vs.toArray) (fun A hA => hl ▸ Walks.list hA I a hne vs.toArray)
  (fun b hb hbI => ?_) (fun i h hs => ?_) (fun i v x hv hx => ?_) (fun i A s Q E hs q => wpAny_pyIter_listiter hs.1 q), ⟨"list_iterator", rfl, by decide, by decide, by decide, by decide⟩, fun h hI hb => ⟨⟨_, hI, rfl, rfl⟩, _, hb a (by simp) hne _ o, rfl, _, rfl⟩⟩
 · simp at hb
   rcases hb with rfl | rfl
   · exact absurd rfl hbI
   · exact ⟨_, o⟩
 · obtain ⟨⟨o', h1, h2, h3⟩, -⟩ := hs
   exact ⟨o', h1, "list_iterator", h2, by decide, by decide, by decide, by decide⟩
 · obtain ⟨c, h1, h2⟩ := r.get hx
   have : vs[i]? = some v := by simpa using hv
   rw [h1] at this; cases this; exact h2
theorem ints_map : ∀ l : List Nat, Mine.intz l = l.map fun k : Nat => V.int (k : Int)
 | [] => rfl
 | k :: l => by
  show V.int (k : Int) :: Mine.intz l = _
  rw [ints_map l]; rfl
theorem wk_bytes {I : Addr} {b : Array UInt8} {t : Tok} {l : List Nat} {G : Led} {ad : List Addr} (e : b.toList.map UInt8.toNat = l) : ∃ T, Wk S I .no (Mine.intz l) G ad T ∧ T 0 { cls := .type "bytes_iterator", data := .fields #[.bytes b t, .int 0 0] } := by
 have hl : b.size = (Mine.intz l).length := by rw [ints_map, List.length_map, ← e, List.length_map]; simp
 refine ⟨_, Wk.of_walks (fp := [I]) (P := fun i v => ∃ c u, b[i]? = some c ∧ v = .int (c.toNat : Int) u) (Sn := fun i h => KBw.IsBytesIter h I b t i) (fun A hA => hl ▸ KBw.walks hA I b t)
  (fun b hb hbI => ?_) (fun i h hs => ?_) (fun i v x hv hx => ?_) (fun i A s Q E hs q => KBw.pyIter_self hs q), ⟨"bytes_iterator", rfl, by decide, by decide, by decide, by decide⟩, fun h hI hb => ⟨_, hI, rfl, rfl⟩⟩
 · simp at hb; exact absurd hb hbI
 · obtain ⟨o', h1, h2, h3⟩ := hs
   exact ⟨o', h1, "bytes_iterator", h2, by decide, by decide, by decide, by decide⟩
 · obtain ⟨c, u, h1, rfl⟩ := hv
   rw [ints_map, ← e, List.map_map, List.getElem?_map] at hx
   have h1 : b.toList[i]? = some c := by simpa using h1
   rw [h1] at hx
   cases hx
   exact .int _ _
theorem wk_keys {I a : Addr} {l : List (V × V)} {es : List DictEntry} {nn : Nat} {G : Led} {ad : List Addr} {s : Shared} (o : Obs S G a (dictOf es nn)) (rd : Rds S G ad l es) (hu : uniq l = true) (hne : a ≠ I) (ha : s.heap.get? a = some (dictOf es nn)) :
 ∃ T ep n, Wk S I .no (keys l) G ad T ∧ (∃ K, ∃ _ : DecidableEq K, ∃ knd : KeyKind S.prog S.w K, ∃ kvs, s.heap.DictAt knd a kvs ep ∧ kvs.length = n) ∧ T 0 { cls := .type "dict_keyiterator", data := .fields #[.ref a, .int 0 0, .int n 0, .int ep 0] } := by
 rcases uniq_kind hu with hk | hk
 · obtain ⟨kvs, k1, k2⟩ := dict_int_of rd hk hu ha
   obtain ⟨ep, hat⟩ := k1.dictAt
   have hl : kvs.length = (keys l).length := by rw [keys_eq, List.length_map, k2.length]
   refine ⟨_, ep, kvs.length, Wk.of_walks (fp := [I, a]) (P := fun i v => ∃ k x, kvs[i]? = some (k, x) ∧ (PySem.intKind S.prog S.w).is k v = true) (Sn := fun i h => h.IsKeyIter I a i kvs.length ep ∧ h.DictAt (PySem.intKind S.prog S.w) a kvs ep) (fun A hA => hl ▸ Walks.dictKeys hA I a hne kvs ep)
    (fun b hb hbI => ?_) (fun i h hs => ?_) (fun i v x hv hx => ?_) (fun i A s Q E hs q => wpAny_pyIter_keyiter hs.1 q), ⟨_, _, _, kvs, hat, rfl⟩, ⟨"dict_keyiterator", rfl, by decide, by decide, by decide, by decide⟩, fun h hI hb => ⟨⟨_, hI, rfl, rfl⟩, ?_⟩⟩
   · simp at hb
     rcases hb with rfl | rfl
     · exact absurd rfl hbI
     · exact ⟨_, o⟩
   · obtain ⟨⟨o', h1, h2, h3⟩, -⟩ := hs
     exact ⟨o', h1, "dict_keyiterator", h2, by decide, by decide, by decide, by decide⟩
   · obtain ⟨k, y, h1, h2⟩ := hv
     have hx : (l.map (·.1))[i]? = some x := by rw [← keys_eq]; exact hx
     have : x = .int k := by
      have e1 := keys_int k2
      rw [keys_eq] at e1
      rw [e1] at hx
      simp [h1] at hx
      exact hx.symm
     subst this
     obtain ⟨t, rfl⟩ := Value.isInt_shape (show Value.isInt k v = true from h2)
     exact .int _ _
   · exact hat.at' fun o' e => by rw [ha] at e; cases e; exact hb a (by simp) hne _ o
 · obtain ⟨kvs, k1, k2⟩ := dict_str_of rd hk hu ha
   obtain ⟨ep, hat⟩ := k1.dictAt
   have hl : kvs.length = (keys l).length := by rw [keys_eq, List.length_map, k2.length]
   refine ⟨_, ep, kvs.length, Wk.of_walks (fp := [I, a]) (P := fun i v => ∃ k x, kvs[i]? = some (k, x) ∧ (PySem.strKind S.prog S.w).is k v = true) (Sn := fun i h => h.IsKeyIter I a i kvs.length ep ∧ h.DictAt (PySem.strKind S.prog S.w) a kvs ep) (fun A hA => hl ▸ Walks.dictKeys hA I a hne kvs ep)
    (fun b hb hbI => ?_) (fun i h hs => ?_) (fun i v x hv hx => ?_) (fun i A s Q E hs q => wpAny_pyIter_keyiter hs.1 q), ⟨_, _, _, kvs, hat, rfl⟩, ⟨"dict_keyiterator", rfl, by decide, by decide, by decide, by decide⟩, fun h hI hb => ⟨⟨_, hI, rfl, rfl⟩, ?_⟩⟩
   · simp at hb
     rcases hb with rfl | rfl
     · exact absurd rfl hbI
     · exact ⟨_, o⟩
   · obtain ⟨⟨o', h1, h2, h3⟩, -⟩ := hs
     exact ⟨o', h1, "dict_keyiterator", h2, by decide, by decide, by decide, by decide⟩
   · obtain ⟨k, y, h1, h2⟩ := hv
     have hx : (l.map (·.1))[i]? = some x := by rw [← keys_eq]; exact hx
     have : ∀ {l : List (V × V)} {kvs : List (PySem.Str × Value)} {i : Nat} {x : V} {k : PySem.Str} {y : Value}, All2 (StrP S G ad) l kvs → (l.map (·.1))[i]? = some x → kvs[i]? = some (k, y) → ∃ j, x = .str j ∧ k = S.nm j := by
      intro l kvs i x k y h
      induction h generalizing i with
      | nil => intro h; simp at h
      | cons h r ih =>
       intro h1 h2
       cases i with
       | zero =>
        obtain ⟨⟨j, e1, e2⟩, -⟩ := h
        simp at h1 h2
        refine ⟨j, by rw [← h1, e1], ?_⟩
        rw [h2] at e2; exact e2
       | succ i => exact ih (by simpa using h1) (by simpa using h2)
     obtain ⟨j, rfl, rfl⟩ := this k2 hx h1
     obtain ⟨t, rfl⟩ := Value.isStrOf_shape (show Value.isStrOf (S.nm j) v = true from h2)
     exact .str _ _
   · exact hat.at' fun o' e => by rw [ha] at e; cases e; exact hb a (by simp) hne _ o
end
end
end Mine
end
section
namespace Mine
open PySem PySem.W PySem.Calls PyProof.Rows
noncomputable section
section
variable {S : Stage} {n : Nat} {sc : Scope} {ns : List (Option PySem.Str)}
theorem onO_ref {β : Type} (i : Nat) (st : St) (e : β) (fi : Nat → Env → β) (fl : List V → β) (fd : List (V × V) → β) : onO (.ref i) st e fi fl fd = match atT st.t i with | none => e | some o => O.rec fi fl fd o := by
 obtain ⟨t, k⟩ := st
 show (OL.rec e (fun o => O.rec fi fl fd o) (getT t i) : β) = _
 rw [getT_eq]
 show _ = match atT t i with | none => e | some o => O.rec fi fl fd o
 cases atT t i <;> rfl
theorem wk_heap {I a i : Nat} {l : List V} {G : Led} {ad : List Addr} (ha : ad[i]? = some a) (hne : a ≠ I) : ∃ T, Wk S I (.at (.ref i)) l G ad T ∧ T 0 { cls := .type "list_iterator", data := .fields #[.ref a, .int 0 0] } := by
 have at' : ∀ {j : Nat} {o : Obj} {h : Heap}, (o.cls = .type "list_iterator" ∧ o.data = .fields #[.ref a, .int j 0]) → h.get? I = some o → h.IsListIter I a j := fun h1 h2 => ⟨_, h2, h1.1, h1.2⟩
 refine ⟨fun j o => o.cls = .type "list_iterator" ∧ o.data = .fields #[.ref a, .int j 0], ⟨fun zz zz h => ⟨"list_iterator", h.1, by decide, by decide, by decide, by decide⟩, fun {A E Q sc ns env h₀ m G D C ad2 ρ st s j o x v} hA F R g p hI hT hx hr q => ?_, fun {A E Q sc ns env h₀ m G D C ad2 ρ st s o} hA F R g p hI hT hf q => ?_, fun {A E Q sc ns env h₀ m G D C ad2 ρ st s j o} F R g hI hT q => ?_⟩, rfl, rfl⟩
 · have hI' := R.nw.get (List.mem_append_left _ hI)
   have hr : onO (.ref i) st (OL.no : OL V) (fun zz zz => .no) (fun l => nth j l) (fun zz => .no) = .at v := hr
   rw [onO_ref] at hr
   cases qa : atT st.t i with
   | none => rw [qa] at hr; cases hr
   | some ob =>
    rw [qa] at hr
    cases ob with
    | inst _ _ => cases hr
    | dict _ => cases hr
    | list l2 =>
     have hr : nth j l2 = .at v := hr
     obtain ⟨vs, k, x1, x2, x3⟩ := R.list (get_prefix ha p) qa
     rw [nth_eq] at hr
     cases qj : l2[j]? with
     | none => rw [qj] at hr; cases hr
     | some y =>
      rw [qj] at hr; cases hr
      obtain ⟨c, c1, c2⟩ := x3.get qj
      refine wpAny_pyNext_list_item (x := c) (at' hT hI') ⟨_, x2, rfl, _, rfl⟩ (by simpa using c1) fun h' hit' hs' => ?_
      obtain ⟨o', y1, y2, y3⟩ := hit'
      exact q h' s.toks o' c (fun b o hb e => (hs'.2 b hb).trans e) y1 ⟨y2, y3⟩ c2
 · have hI' := R.nw.get (List.mem_append_left _ hI)
   have hf : onO (.ref i) st false (fun zz zz => false) (fun l2 => (OL.rec true (fun zz => false) (nth l.length l2) : Bool)) (fun zz => false) = true := hf
   rw [onO_ref] at hf
   cases qa : atT st.t i with
   | none => rw [qa] at hf; cases hf
   | some ob =>
    rw [qa] at hf
    cases ob with
    | inst _ _ => cases hf
    | dict _ => cases hf
    | list l2 =>
     have hf : (OL.rec true (fun zz => false) (nth l.length l2) : Bool) = true := hf
     obtain ⟨vs, k, x1, x2, x3⟩ := R.list (get_prefix ha p) qa
     rw [nth_eq] at hf
     cases qj : l2[l.length]? with
     | some y => rw [qj] at hf; cases hf
     | none =>
      have hge : l2.length ≤ l.length := by simpa using qj
      refine wpAny_pyNext_list_end hA (at' hT hI') ⟨_, x2, rfl, _, rfl⟩ (by simp [x3.length]; exact hge) fun h' he' => ?_
      exact q h' s.toks fun b o hb e => he' b o hb e
 · exact wpAny_pyIter_listiter (at' hT (R.nw.get (List.mem_append_left _ hI))) q
theorem It_inj {h h' : OL V} {l l' : List V} {s s' : St} (e : (R.ok (It.mk h l) s : R It) = .ok (.mk h' l') s') : h = h' ∧ l = l' ∧ s = s' := by
 injection e with e1 e2; injection e1 with e1 e3; exact ⟨e1, e3, e2⟩
theorem SI.E {e : PySem.Expr} {d : DE} (hK : ∀ es nn, S.K.lookup sysModules ≠ some (dictOf es nn)) (hd : SE S n sc ns e d) : SI S n sc ns e (itE d) := ⟨fun hA F R h q => by
 obtain ⟨v, s1, e1, h1⟩ := R_ok h
 refine hd.go hA F R e1 fun s' G' D' ad' cv R1 g1 p1 r => ?_
 cases r with
 | tup l vs a k o r =>
  obtain ⟨rfl, rfl, rfl⟩ := It_inj h1
  have ha := R1.obs F o
  obtain ⟨T, W, hT⟩ := wk_tup (I := s'.heap.objs.size) o r (Nat.ne_of_lt (Heap.lt_size ha))
  exact wpAny_pyIter_tuple ⟨_, ha, rfl, _, rfl⟩ (iter_new R1 rfl W hT fun s2 G2 D2 ad2 I o T R2 g2 p2 => q s2 G2 D2 ad2 I o T R2 (List.Subset.trans g1 g2) (p1.trans p2))
 | lst l vs a k o r =>
  obtain ⟨rfl, rfl, rfl⟩ := It_inj h1
  have ha := R1.obs F o
  obtain ⟨T, W, hT⟩ := wk_lst (I := s'.heap.objs.size) o r (Nat.ne_of_lt (Heap.lt_size ha))
  exact wpAny_pyIter_list ⟨_, ha, rfl, _, rfl⟩ (iter_new R1 rfl W hT fun s2 G2 D2 ad2 I o T R2 g2 p2 => q s2 G2 D2 ad2 I o T R2 (List.Subset.trans g1 g2) (p1.trans p2))
 | bytes l b t e =>
  obtain ⟨rfl, rfl, rfl⟩ := It_inj h1
  obtain ⟨T, W, hT⟩ := wk_bytes (S := S) (I := s'.heap.objs.size) (b := b) (t := t) (G := G') (ad := ad') e
  exact KBw.pyIter_bytes (iter_new R1 rfl W hT fun s2 G2 D2 ad2 I o T R2 g2 p2 => q s2 G2 D2 ad2 I o T R2 (List.Subset.trans g1 g2) (p1.trans p2))
 | dct l es a k o rd =>
  obtain ⟨hu, h2⟩ := bt_ok h1
  obtain ⟨rfl, rfl, rfl⟩ := It_inj h2
  have ha := R1.obs F o
  obtain ⟨T, ep, nn, W, ⟨K, dk, knd, kvs, hat, hl⟩, hT⟩ := wk_keys (I := s'.heap.objs.size) o rd hu (Nat.ne_of_lt (Heap.lt_size ha)) ha
  subst hl
  exact wpAny_pyIter_dict (Obs.sysNe hK R1 F o) hat (iter_new R1 rfl W hT fun s2 G2 D2 ad2 I o T R2 g2 p2 => q s2 G2 D2 ad2 I o T R2 (List.Subset.trans g1 g2) (p1.trans p2))
 | ref i a ea =>
  obtain ⟨i', hi', ⟨c, f, _, h2⟩ | ⟨l, hat, h2⟩ | ⟨l, _, h2⟩⟩ := onO_ok h1
  · cases h2
  · injection hi' with hi'
    subst hi'
    obtain ⟨rfl, rfl, rfl⟩ := It_inj h2
    obtain ⟨vs, k, x1, x2, x3⟩ := R1.list ea hat
    obtain ⟨T, W, hT⟩ := wk_heap (S := S) (I := s'.heap.objs.size) (l := l) (G := G') ea (Nat.ne_of_lt (Heap.lt_size x2))
    exact wpAny_pyIter_list ⟨_, x2, rfl, _, rfl⟩ (iter_new R1 rfl W hT fun s2 G2 D2 ad2 I o T R2 g2 p2 => q s2 G2 D2 ad2 I o T R2 (List.Subset.trans g1 g2) (p1.trans p2))
  · cases h2
 | _ => cases h1⟩
theorem upto_length : ∀ (k a : Nat), (upto k a).length = k
 | 0, _ => rfl
 | k + 1, a => by
  show (V.int (a : Int) :: upto k (a + 1)).length = _
  rw [List.length_cons, upto_length k]
theorem upto_get : ∀ (k a i : Nat) (x : V), (upto k a)[i]? = some x → x = .int ((a : Int) + (i : Int) * 1)
 | 0, _, i, x, h => by
  have : (([] : List V)[i]?) = some x := h
  simp at this
 | k + 1, a, i, x, h => by
  have h : (V.int (a : Int) :: upto k (a + 1))[i]? = some x := h
  cases i with
  | zero => simp at h; rw [← h]; simp
  | succ i =>
   have := upto_get k (a + 1) i x (by simpa using h)
   rw [this]; congr 1; push_cast; omega
theorem downs_length : ∀ k : Nat, (downs k).length = k
 | 0 => rfl
 | k + 1 => by
  show (V.int (k : Int) :: downs k).length = _
  rw [List.length_cons, downs_length k]
theorem downs_get : ∀ (k i : Nat) (x : V), (downs (k + 1))[i]? = some x → x = .int ((k : Int) + (i : Int) * (-1))
 | k, 0, x, h => by
  have h : (V.int (k : Int) :: downs k)[0]? = some x := h
  simp at h; rw [← h]; simp
 | k, i + 1, x, h => by
  have h : (V.int (k : Int) :: downs k)[i + 1]? = some x := h
  cases k with
  | zero =>
   have h : ([V.int ((0 : Nat) : Int)] : List V)[i + 1]? = some x := h
   simp at h
  | succ k =>
   have := downs_get k i x (by simpa using h)
   rw [this]; congr 1; push_cast; omega
theorem wk_range {I : Addr} {a c : Int} {l : List V} {G : Led} {ad : List Addr} (hx : ∀ (i : Nat) (x : V), l[i]? = some x → x = V.int (a + (i : Int) * c)) :
 ∃ T, Wk S I .no l G ad T ∧ T 0 { cls := .type "range_iterator", data := .fields #[rawInt a, rawInt (l.length : Int), rawInt c] } := by
 refine ⟨_, Wk.of_walks (fp := [I]) (P := fun i v => ∃ t, v = .int (a + (i : Int) * c) t) (Sn := fun i h => IsRangeIter h I (a + (i : Nat) * c) ((l.length : Int) - (i : Nat)) c) (fun A hA => Walks.range hA I a c l.length)
  (fun b hb hbI => ?_) (fun i h hs => ?_) (fun i v x hv h => ?_) (fun i A s Q E hs q => wpAny_pyIter_rangeiter hs q), ⟨"range_iterator", rfl, by decide, by decide, by decide, by decide⟩, fun h hI hb => ?_⟩
 · simp at hb; exact absurd hb hbI
 · exact ⟨_, hs, "range_iterator", rfl, by decide, by decide, by decide, by decide⟩
 · obtain ⟨t, rfl⟩ := hv
   rw [hx i x h]; exact .int _ _
 · show IsRangeIter h I (a + ((0 : Nat) : Int) * c) _ c
   have e1 : a + ((0 : Nat) : Int) * c = a := by simp
   have e2 : (l.length : Int) - ((0 : Nat) : Int) = (l.length : Int) := by simp
   rw [e1, e2]; exact hI
theorem call_name {A : Around} {E : Value → Shared → Prop} {Q : Value → Shared → Prop} {env : PySem.Env} {h₀ : Heap} {m : PySem.Str → Option Value} {G D C : Led} {ad : List Addr} {ρ : Env} {st st' : St} {s : Shared} {x : PySem.Str} {p pos : Pos} {es : List PySem.Expr} {ds : List DE} {bv : Value} {vs : List V}
 (hA : Room n A) (F : Fix S sc ns env h₀) (R : Rel S ns env h₀ m G D C ad ρ st s) (hs : SEs S n sc ns es ds) (e1 : evs ds ρ st = .ok vs st') (hv : bootBuiltins x = some bv) (hr : ∀ a, bv ≠ .ref a) (hn : x ≠ "__name__") (hx : (x == ("__debug__" : PySem.Str)) = false)
 (e : nsIn S.K mainGlobals x = some Option.none) (hk : sc.names.lookup x = some .globalImplicit)
 (hp : ∀ env pos, (backTo pos (starEach es env)).any (·.1) = false)
 (he : ∀ env, eval (.Call (.Name x p) es [] pos) env = (do callWith pos (← eval (.Name x p) env) [] (backTo pos (starEach es env)) (backToKw pos (keywordEach [] env))))
 (q : ∀ s' G' D' ad' cs, Rel S ns env h₀ m G' D' C ad' ρ st' s' → G ⊆ G' → ad <+: ad' → Rvs S G' ad' vs cs → wpAny (model S.prog S.w) A (call bv cs) Q E s') :
 wpAny (model S.prog S.w) A (eval (.Call (.Name x p) es [] pos) env) Q E s := by
 refine Call_ (name_blt F R hk e hv hn hx ?_) (he _)
 refine callWith_of (P := fun zz => True) (by rw [hp]; rfl) (fun zz zz => keeps_blt hr _) (evalArgs_some (hp _ _) ?_)
 exact hs.go hA F R e1 fun s' G' D' ad' cs R1 g1 p1 r => ⟨trivial, q s' G' D' ad' cs R1 g1 p1 r⟩
theorem iter_range {A : Around} {E : Value → Shared → Prop} {Q : Value → Shared → Prop} {env : PySem.Env} {h₀ : Heap} {m : PySem.Str → Option Value} {G D C : Led} {ad : List Addr} {ρ : Env} {st : St} {s : Shared} {a b c : Int} {t u v : Tok} {l : List V}
 (R : Rel S ns env h₀ m G D C ad ρ st s) (tk : Tok) (hsm : Builtin.Range.small a b c = true) (hsz : Builtin.Range.rangeSize a b c = l.length) (hx : ∀ (i : Nat) (x : V), l[i]? = some x → x = V.int (a + (i : Int) * c))
 (q : ∀ s' G' D' ad' I o T, Rel S ns env h₀ m ((I, o) :: G') D' C ad' ρ st s' → G ⊆ G' → ad <+: ad' → (∀ p ∈ G', p.1 ≠ I) → Wk S I .no l G' ad' T → T 0 o → Q (.ref I) s') :
 wpAny (model S.prog S.w) A (pyIter (.ref s.heap.objs.size)) Q E { s with heap := s.heap.push { cls := .type "range", data := .fields #[.int a t, .int b u, .int c v] }, toks := tk } := by
 have R1 := R.more tk (R.fr.push { cls := .type "range", data := .fields #[.int a t, .int b u, .int c v] }) (News.push R.fr R.nw _) R.lt
 refine wpAny_pyIter_range (IsRange.new ..) hsm ?_
 rw [hsz]
 obtain ⟨T, W, hT⟩ := wk_range (S := S) (I := (s.heap.push { cls := .type "range", data := .fields #[.int a t, .int b u, .int c v] }).objs.size) (l := l) (G := (s.heap.objs.size, { cls := .type "range", data := .fields #[.int a t, .int b u, .int c v] }) :: G) (ad := ad) hx
 exact iter_new R1 rfl W hT fun s2 G2 D2 ad2 I o T R2 g2 p2 => q s2 G2 D2 ad2 I o T R2 (List.Subset.trans (List.subset_cons_self _ _) g2) p2
end
end
end Mine
end
section
namespace Mine
open PySem PySem.W PySem.Calls PyProof.Rows
noncomputable section
def relS (scope sc : Scope) : Scope :=
 { scope with names := scope.names.map fun (n, k) => if (k == .free && sc.kind == .function && sc.names.lookup n == some .cell) then (n, .cell) else (n, k) }
theorem relabel_eq (scope : Scope) (env : PySem.Env) : relabel scope env = relS scope env.scope := rfl
theorem lookup_rel {P : PySem.Str → NameKind → Bool} (y : PySem.Str) : ∀ names : List (PySem.Str × NameKind), (names.map fun (n, k) => if P n k = true then (n, NameKind.cell) else (n, k)).lookup y = (names.lookup y).map fun k => if P y k = true then .cell else k
 | [] => rfl
 | (n, k) :: r => by
  rw [List.map_cons]
  dsimp only
  by_cases hP : P n k = true
  · rw [if_pos hP, List.lookup_cons, List.lookup_cons]
    cases hy : y == n with
    | true => have : y = n := eq_of_beq hy; subst this; simp [hP]
    | false => exact lookup_rel y r
  · rw [if_neg hP, List.lookup_cons, List.lookup_cons]
    cases hy : y == n with
    | true => have : y = n := eq_of_beq hy; subst this; simp [hP]
    | false => exact lookup_rel y r
theorem relS_lookup (scope sc : Scope) (y : PySem.Str) : (relS scope sc).names.lookup y = (scope.names.lookup y).map fun k => if (k == .free && sc.kind == .function && sc.names.lookup y == some .cell) = true then .cell else k :=
 lookup_rel (P := fun n k => k == .free && sc.kind == .function && sc.names.lookup n == some .cell) y scope.names
def clOf (f : PySem.Str → Addr) : List (PySem.Str × NameKind) → List (PySem.Str × Addr) → List (PySem.Str × Addr)
 | [], cs => cs
 | (n, k) :: r, cs => clOf f r (if k == .free then (n, f n) :: cs else cs)
theorem closureFor_of {scope : Scope} {env : PySem.Env} {f : PySem.Str → Addr} (h : ∀ p ∈ scope.names, p.2 = .free → env.cells.lookup p.1 = some (f p.1)) : closureFor scope env = pure (clOf f scope.names []) := by
 unfold closureFor
 have key : ∀ (l : List (PySem.Str × NameKind)) (cs : List (PySem.Str × Addr)), (∀ p ∈ l, p.2 = .free → env.cells.lookup p.1 = some (f p.1)) →
  (forIn l cs fun x r => (match x with | (name, kind) => if (kind == NameKind.free) = true then (do let c ← cellOf env name; pure (ForInStep.yield ((name, c) :: r))) else pure (ForInStep.yield r) : Sem (ForInStep (List (PySem.Str × Addr))))) = pure (clOf f l cs) := by
  intro l
  induction l with
  | nil => intro cs _; rfl
  | cons p l ih =>
   obtain ⟨n, k⟩ := p
   intro cs hl
   rw [List.forIn_cons]
   dsimp only
   by_cases hk : (k == NameKind.free) = true
   · have e := hl (n, k) (.head _) (eq_of_beq hk)
     have e2 : cellOf env n = pure (f n) := by unfold cellOf; rw [e]
     rw [if_pos hk, e2]
     simp only [pure_bind]
     rw [ih _ fun p hp => hl p (.tail _ hp)]
     show _ = pure (clOf f l (if k == .free then (n, f n) :: cs else cs))
     rw [if_pos hk]
   · rw [if_neg hk]
     simp only [pure_bind]
     rw [ih _ fun p hp => hl p (.tail _ hp)]
     show _ = pure (clOf f l (if k == .free then (n, f n) :: cs else cs))
     rw [if_neg hk]
 have := key scope.names [] h
 show (do let r ← forIn scope.names [] _; pure r) = _
 rw [show (forIn scope.names [] _ : Sem (List (PySem.Str × Addr))) = _ from this]
 rfl
theorem clOf_sub {f : PySem.Str → Addr} {y : PySem.Str} {c : Addr} : ∀ (l : List (PySem.Str × NameKind)) (cs : List (PySem.Str × Addr)), (clOf f l cs).lookup y = some c → ((y, NameKind.free) ∈ l ∧ c = f y) ∨ cs.lookup y = some c
 | [], cs, h => .inr h
 | (n, k) :: r, cs, h => by
  rcases clOf_sub r _ h with ⟨h1, h2⟩ | h1
  · exact .inl ⟨.tail _ h1, h2⟩
  · by_cases hk : (k == NameKind.free) = true
    · rw [if_pos hk, List.lookup_cons] at h1
      cases hy : y == n with
      | true =>
       rw [hy] at h1
       have e1 : y = n := eq_of_beq hy
       have e2 : k = .free := eq_of_beq hk
       subst e1; subst e2
       cases h1
       exact .inl ⟨.head _, rfl⟩
      | false => rw [hy] at h1; exact .inr h1
    · rw [if_neg hk] at h1; exact .inr h1
theorem clOf_some {f : PySem.Str → Addr} {y : PySem.Str} : ∀ (l : List (PySem.Str × NameKind)) (cs : List (PySem.Str × Addr)), ((y, NameKind.free) ∈ l ∨ (cs.lookup y).isSome = true) → ((clOf f l cs).lookup y).isSome = true
 | [], cs, h => by
  rcases h with h | h
  · cases h
  · exact h
 | (n, k) :: r, cs, h => by
  refine clOf_some r _ ?_
  rcases h with h | h
  · rcases List.mem_cons.mp h with h | h
    · cases h
      right
      rw [if_pos (by rfl), List.lookup_cons, show (y == y) = true from beq_self_eq_true y]; rfl
    · exact .inl h
  · right
    by_cases hk : (k == NameKind.free) = true
    · rw [if_pos hk, List.lookup_cons]
      cases hy : y == n with
      | true => rfl
      | false => exact h
    · rw [if_neg hk]; exact h
def cns (ns : List (Option PySem.Str)) (names : List (PySem.Str × NameKind)) (tg : List (Nat × PySem.Str)) : List (Option PySem.Str) :=
 (List.range 64).map fun i => match tg.lookup i with
  | some x => some x
  | none => match ns[i]? with
   | some (some y) => if names.lookup y = some .free then some y else none
   | _ => none
theorem cns_get {ns : List (Option PySem.Str)} {names : List (PySem.Str × NameKind)} {tg : List (Nat × PySem.Str)} {i : Nat} {y : PySem.Str} (h : (cns ns names tg)[i]? = some (some y)) :
 tg.lookup i = some y ∨ (tg.lookup i = none ∧ ns[i]? = some (some y) ∧ names.lookup y = some .free) := by
 have h1 : i < 64 := by
  have := (List.getElem?_eq_some_iff.mp h).1
  simpa [cns] using this
 have h2 : (cns ns names tg)[i]? = some (match tg.lookup i with
  | some x => some x
  | none => match ns[i]? with
   | some (some y) => if names.lookup y = some .free then some y else none
   | _ => none) := by simp [cns, h1]
 rw [h2] at h
 cases q : tg.lookup i with
 | some x => rw [q] at h; exact .inl (by injection h)
 | none =>
  rw [q] at h
  refine .inr ⟨rfl, ?_⟩
  cases q2 : ns[i]? with
  | none => rw [q2] at h; cases h
  | some o =>
   rw [q2] at h
   cases o with
   | none => cases h
   | some z =>
    dsimp only at h
    by_cases q3 : names.lookup z = some .free
    · rw [if_pos q3] at h
      injection h with h; injection h with h
      subst h
      exact ⟨rfl, q3⟩
    · rw [if_neg q3] at h; cases h
structure CS (scope sc : Scope) (tg : List (Nat × PySem.Str)) : Prop where
 kind : scope.kind = .function
 nocell : ∀ y ∈ scope.names, y.2 ≠ .cell
 names : ∀ y ∈ scope.names, scope.names.lookup y.1 = some y.2
 free : ∀ y ∈ scope.names, y.2 = .free → sc.names.lookup y.1 = some .cell
 tgs : ∀ p ∈ tg, scope.names.lookup p.2 = some .local ∧ (p.2 == ("__debug__" : PySem.Str)) = false ∧ (p.2 == ("__classdict__" : PySem.Str)) = false
 inj : ∀ p ∈ tg, ∀ q ∈ tg, p.2 = q.2 → p.1 = q.1
theorem lookup_mem {β : Type} {l : List (Nat × β)} {i : Nat} {y : β} (h : l.lookup i = some y) : (i, y) ∈ l := by
 induction l with
 | nil => cases h
 | cons p l ih =>
  obtain ⟨j, z⟩ := p
  rw [List.lookup_cons] at h
  cases q : i == j with
  | true =>
   rw [q] at h
   have : i = j := eq_of_beq q
   subst this; cases h; exact .head _
  | false => rw [q] at h; exact .tail _ (ih h)
theorem lookup_memS {β : Type} {l : List (PySem.Str × β)} {i : PySem.Str} {y : β} (h : l.lookup i = some y) : (i, y) ∈ l := by
 induction l with
 | nil => cases h
 | cons p l ih =>
  obtain ⟨j, z⟩ := p
  rw [List.lookup_cons] at h
  cases q : i == j with
  | true =>
   rw [q] at h
   have : i = j := eq_of_beq q
   subst this; cases h; exact .head _
  | false => rw [q] at h; exact .tail _ (ih h)
def cellAt (env : PySem.Env) (y : PySem.Str) : Addr := (env.cells.lookup y).getD 0
section
variable {S : Stage} {sc scope : Scope} {ns : List (Option PySem.Str)} {tg : List (Nat × PySem.Str)}
theorem CS.cells {env : PySem.Env} {h₀ : Heap} (X : CS scope sc tg) (F : Fix S sc ns env h₀) : ∀ p ∈ scope.names, p.2 = .free → env.cells.lookup p.1 = some (cellAt env p.1) := fun p hp hf => by
 obtain ⟨c, hc⟩ := F.cell p.1 (X.free p hp hf)
 unfold cellAt
 rw [hc]; rfl
theorem CS.closure {env : PySem.Env} {h₀ : Heap} (X : CS scope sc tg) (F : Fix S sc ns env h₀) : closureFor scope env = pure (clOf (cellAt env) scope.names []) := closureFor_of (X.cells F)
theorem CS.isLocal (X : CS scope sc tg) {i : Nat} {x : PySem.Str} (h : tg.lookup i = some x) : (relS scope sc).names.lookup x = some .local := by
 rw [relS_lookup, (X.tgs _ (lookup_mem h)).1]; rfl
abbrev cenvOf (scope : Scope) (Cl : Addr) (env : PySem.Env) : PySem.Env := compEnvC scope (clOf (cellAt env) scope.names []) Cl env
theorem cells_of {env : PySem.Env} {h₀ : Heap} (X : CS scope sc tg) (F : Fix S sc ns env h₀) {Cl : Addr} {y : PySem.Str} {c : Addr} (h : (cenvOf scope Cl env).cells.lookup y = some c) : env.cells.lookup y = some c := by
 rcases clOf_sub scope.names [] h with ⟨h1, h2⟩ | h1
 · rw [X.cells F _ h1 rfl, h2]
 · cases h1
theorem Fix.comp {env : PySem.Env} {h₀ : Heap} (F : Fix S sc ns env h₀) (X : CS scope sc tg) (Cl : Addr) : Fix S (relS scope sc) (cns ns scope.names tg) (cenvOf scope Cl env) h₀ where
 esc := by show relabel scope env = _; rw [relabel_eq, F.esc]
 kind := X.kind
 glob := F.glob
 blt := F.blt
 kin := F.kin
 top := F.top
 nsok := fun x hx => by
  obtain ⟨i, hi, e⟩ := List.getElem_of_mem hx
  have e : (cns ns scope.names tg)[i]? = some (some x) := by rw [List.getElem?_eq_getElem hi, e]
  rcases cns_get e with h | ⟨_, h, _⟩
  · exact (X.tgs _ (lookup_mem h)).2
  · exact F.nsok x (List.mem_of_getElem? h)
 ninj := fun i j x hi hj => by
  rcases cns_get hi with a | ⟨a, b, c⟩ <;> rcases cns_get hj with a' | ⟨a', b', c'⟩
  · exact X.inj _ (lookup_mem a) _ (lookup_mem a') rfl
  · have := (X.tgs _ (lookup_mem a)).1
    rw [c'] at this; cases this
  · have := (X.tgs _ (lookup_mem a')).1
    rw [c] at this; cases this
  · exact F.ninj i j x b b'
 cinj := fun x y c hx hy => F.cinj x y c (cells_of X F hx) (cells_of X F hy)
 cell := fun x hx => by
  have : (x, NameKind.free) ∈ scope.names := by
   rw [relS_lookup] at hx
   cases q : scope.names.lookup x with
   | none => rw [q] at hx; cases hx
   | some k =>
    rw [q] at hx
    have hm := lookup_memS q
    have hx : (if (k == .free && sc.kind == .function && sc.names.lookup x == some .cell) = true then NameKind.cell else k) = .cell := by injection hx
    by_cases hc : (k == .free && sc.kind == .function && sc.names.lookup x == some .cell) = true
    · simp only [Bool.and_eq_true] at hc
      have : k = .free := eq_of_beq hc.1.1
      rw [← this]; exact hm
    · rw [if_neg hc] at hx
      exact absurd hx (X.nocell _ hm)
  exact Option.isSome_iff_exists.mp (clOf_some scope.names [] (.inl this))
 sysm := F.sysm
end
end
end Mine
end
section
namespace Mine
open PySem PySem.W PySem.Calls PyProof.Rows
noncomputable section
section
variable {S : Stage} {n : Nat} {sc scope : Scope} {ns : List (Option PySem.Str)} {tg : List (Nat × PySem.Str)}
variable {env : PySem.Env} {h₀ : Heap} {m m₁ m₂ : PySem.Str → Option Value} {G D C C' : Led} {ad : List Addr} {ρ ρ' : Env} {st : St} {s : Shared}
theorem Rel.off (R : Rel S ns env h₀ m G D C ad ρ st s) {Cl : Addr} (hL : Cl ≠ env.locals) (h0 : h₀.get? Cl = none) (hn : ∀ p ∈ G ++ (D ++ C), p.1 ≠ Cl) {h' : Heap} (hk : ∀ b o, b ≠ Cl → s.heap.get? b = some o → h'.get? b = some o) :
 Rel S ns env h₀ m G D C ad ρ st { s with heap := h' } :=
 ⟨frBut R.fr hk hL h0, fun p hp => ⟨hk _ _ (hn p hp) (R.nw p hp).1, (R.nw p hp).2⟩, R.gd, R.nod, R.hp, R.er, R.gens, R.drawn, R.os, R.cl⟩
theorem Rel.locNone (R : Rel S ns env h₀ m G D C ad ρ st s) : h₀.get? env.locals = none := by
 cases e : h₀.get? env.locals with
 | none => rfl
 | some o => exact absurd (Heap.lt_size e) (Nat.not_lt.mpr R.fr.above)
theorem getNone {h : Heap} {a : Addr} (ha : h.objs.size ≤ a) : h.get? a = none := by
 cases e : h.get? a with
 | none => rfl
 | some o => exact absurd (Heap.lt_size e) (Nat.not_lt.mpr ha)
theorem Rel.enter (R : Rel S ns env h₀ m G D C ad ρ st s) (F : Fix S sc ns env h₀) (X : CS scope sc tg) {h₁ : Heap} {acc Cl : Addr} {oA oL : Obj} (hold : ∀ b o, s.heap.get? b = some o → h₁.get? b = some o) (hacc : h₁.get? acc = some oA) (hn : h₁.Ns Cl m₁)
 (ha : s.heap.objs.size ≤ acc) (hc : s.heap.objs.size ≤ Cl) (hac : acc ≠ Cl) (hL : s.heap.get? env.locals = some oL) (tk : Tok) :
 Rel S (cns ns scope.names tg) (cenvOf scope Cl env) h₀ m₁ G D (C ++ [(env.locals, oL), (acc, oA)]) ad .nil st { s with heap := h₁, toks := tk } := by
 have hLlt : env.locals < s.heap.objs.size := Heap.lt_size hL
 have h0lt : h₀.objs.size ≤ s.heap.objs.size := Nat.le_of_lt (Nat.lt_of_le_of_lt R.fr.above hLlt)
 have key : ∀ p ∈ G ++ (D ++ (C ++ [(env.locals, oL), (acc, oA)])), p ∈ G ++ (D ++ C) ∨ p = (env.locals, oL) ∨ p = (acc, oA) := fun p hp => by
  simp only [List.mem_append, List.mem_cons, List.not_mem_nil, or_false] at hp ⊢
  rcases hp with h | h | h | h | h <;> simp [h]
 refine ⟨⟨hn, fun b o e => hold b o (R.fr.keep b o e), Nat.le_trans h0lt hc⟩, fun p hp => ?_, fun p hp q hq => ?_, ?_, R.hp, (fun k v x e => by cases k <;> cases e), R.gens, R.drawn, R.os, fun x c hx => ?_⟩
 · rcases key p hp with h | rfl | rfl
   · have := R.nw p h
     exact ⟨hold _ _ this.1, Nat.ne_of_lt (Nat.lt_of_lt_of_le (R.lt p h) hc), this.2.2⟩
   · exact ⟨hold _ _ hL, Nat.ne_of_lt (Nat.lt_of_lt_of_le hLlt hc), R.locNone⟩
   · exact ⟨hacc, hac, getNone (Nat.le_trans h0lt ha)⟩
 · have hq' : q ∈ D ++ C ∨ q = (env.locals, oL) ∨ q = (acc, oA) := by
    simp only [List.mem_append, List.mem_cons, List.not_mem_nil, or_false] at hq ⊢
    rcases hq with h | h | h | h <;> simp [h]
   rcases hq' with h | rfl | rfl
   · exact R.gd p hp q h
   · exact (R.nw p (List.mem_append_left _ hp)).2.1
   · exact Nat.ne_of_lt (Nat.lt_of_lt_of_le (R.lt p (List.mem_append_left _ hp)) ha)
 · rw [← List.append_assoc, List.map_append, List.nodup_append]
   refine ⟨R.nod, ?_, fun a ha1 b hb => ?_⟩
   · simp only [List.map_cons, List.map_nil, List.nodup_cons, List.mem_singleton, List.not_mem_nil, not_false_eq_true, and_true, List.nodup_nil]
     exact Nat.ne_of_lt (Nat.lt_of_lt_of_le hLlt ha)
   · obtain ⟨p, hp, rfl⟩ := List.mem_map.mp ha1
     simp only [List.map_cons, List.map_nil, List.mem_cons, List.not_mem_nil, or_false] at hb
     rcases hb with rfl | rfl
     · exact (R.nw p (List.mem_append_right _ hp)).2.1
     · exact Nat.ne_of_lt (Nat.lt_of_lt_of_le (R.lt p (List.mem_append_right _ hp)) ha)
 · obtain ⟨o, v, h1, h2⟩ := R.cl x c (cells_of X F hx)
   exact ⟨o, v, List.mem_append_left _ h1, h2⟩
theorem Rel.leave {Cl acc : Addr} {oA oL : Obj} {ρ' : Env} {ns' : List (Option PySem.Str)} {cenv : PySem.Env} (R : Rel S ns' cenv h₀ m₁ G D (C ++ [(env.locals, oL), (acc, oA)]) ad ρ' st s) (er : ERel S env m C G ad ns ρ)
 (hnL : ∀ h : Heap, h.get? env.locals = some oL → h.Ns env.locals m) (above : h₀.objs.size ≤ env.locals) (cl : ∀ x c, env.cells.lookup x = some c → ∃ o v, (c, o) ∈ C ∧ o.data = .cell v) :
 Rel S ns env h₀ m G D C ad ρ st s := by
 have hL := R.nw (env.locals, oL) (by simp)
 have nod := R.nod
 rw [← List.append_assoc, List.map_append, List.nodup_append] at nod
 refine ⟨⟨hnL _ hL.1, R.fr.keep, above⟩, fun p hp => ?_, fun p hp q hq => R.gd p hp q ?_, nod.1, R.hp, er, R.gens, R.drawn, R.os, cl⟩
 · have hp' : p ∈ G ++ (D ++ (C ++ [(env.locals, oL), (acc, oA)])) := by
    simp only [List.mem_append] at hp ⊢
    rcases hp with h | h | h <;> simp [h]
   have h1 := R.nw p hp'
   refine ⟨h1.1, ?_, h1.2.2⟩
   rcases List.mem_append.mp hp with h | h
   · exact R.gd p h (env.locals, oL) (by simp)
   · exact nod.2.2 _ (List.mem_map_of_mem h) _ (by simp)
 · simp only [List.mem_append] at hq ⊢
   rcases hq with h | h <;> simp [h]
theorem Rel.accOff {Cl acc : Addr} {oA oL : Obj} {ρ' : Env} {ns' : List (Option PySem.Str)} {cenv : PySem.Env} {L : Addr} (R : Rel S ns' cenv h₀ m₁ G D (C ++ [(L, oL), (acc, oA)]) ad ρ' st s) : (∀ q ∈ D ++ C, acc ≠ q.1) ∧ acc ≠ L ∧ s.heap.get? acc = some oA ∧ h₀.get? acc = none := by
 have nod := R.nod
 rw [← List.append_assoc, List.map_append, List.nodup_append] at nod
 have h1 := R.nw (acc, oA) (by simp)
 refine ⟨fun q hq => Ne.symm (nod.2.2 _ (List.mem_map_of_mem hq) _ (by simp)), ?_, h1.1, h1.2.2⟩
 have := nod.2.1
 simp at this
 exact fun e => this e.symm
theorem Rel.setAcc {acc L : Addr} {oA oA' oL : Obj} {ns' : List (Option PySem.Str)} {cenv : PySem.Env} (R : Rel S ns' cenv h₀ m₁ G D (C ++ [(L, oL), (acc, oA)]) ad ρ st s) (hd : ∀ v, oA.data ≠ .cell v) {h' : Heap} (tk : Tok) (hk : ∀ b o, b ≠ acc → s.heap.get? b = some o → h'.get? b = some o) (ho : h'.get? acc = some oA') :
 Rel S ns' cenv h₀ m₁ G D (C ++ [(L, oL), (acc, oA')]) ad .nil st { s with heap := h', toks := tk } := by
 obtain ⟨h1, h2, h3, h4⟩ := R.accOff (Cl := 0)
 have hA := R.nw (acc, oA) (by simp)
 have key : ∀ p ∈ G ++ (D ++ (C ++ [(L, oL), (acc, oA')])), p = (acc, oA') ∨ (p ∈ G ++ (D ++ (C ++ [(L, oL), (acc, oA)])) ∧ p.1 ≠ acc) := fun p hp => by
  simp only [List.mem_append, List.mem_cons, List.not_mem_nil, or_false] at hp ⊢
  rcases hp with h | h | h | rfl | rfl
  · exact .inr ⟨.inl h, R.gd p h (acc, oA) (by simp)⟩
  · exact .inr ⟨.inr (.inl h), Ne.symm (h1 p (List.mem_append_left _ h))⟩
  · exact .inr ⟨.inr (.inr (.inl h)), Ne.symm (h1 p (List.mem_append_right _ h))⟩
  · exact .inr ⟨.inr (.inr (.inr (.inl rfl))), Ne.symm h2⟩
  · exact .inl rfl
 refine ⟨frBut R.fr hk hA.2.1 hA.2.2, fun p hp => ?_, fun p hp q hq => ?_, ?_, R.hp, (fun k v x e => by cases k <;> cases e), R.gens, R.drawn, R.os, fun x c hx => ?_⟩
 · rcases key p hp with rfl | ⟨h, hne⟩
   · exact ⟨ho, hA.2⟩
   · exact ⟨hk _ _ hne (R.nw p h).1, (R.nw p h).2⟩
 · rcases key q (List.mem_append_right _ hq) with rfl | ⟨h, hne⟩
   · exact R.gd p hp (acc, oA) (by simp)
   · rcases List.mem_append.mp hq with h | h
     · exact R.gd p hp q (by simp [h])
     · simp only [List.mem_append, List.mem_cons, List.not_mem_nil, or_false] at h
       rcases h with h | rfl | rfl
       · exact R.gd p hp q (by simp [h])
       · exact R.gd p hp (L, oL) (by simp)
       · exact absurd rfl hne
 · have := R.nod
   simp only [List.map_append, List.map_cons, List.map_nil] at this ⊢
   exact this
 · obtain ⟨o, v, h5, h6⟩ := R.cl x c hx
   simp only [List.mem_append, List.mem_cons, List.not_mem_nil, or_false] at h5
   rcases h5 with h | h | h
   · exact ⟨o, v, List.mem_append_left _ h, h6⟩
   · cases h; exact ⟨_, v, by simp, h6⟩
   · cases h; exact absurd h6 (hd _)
theorem Rel.targets {Cl : Addr} (F : Fix S sc ns env h₀) (X : CS scope sc tg) (R : Rel S (cns ns scope.names tg) (cenvOf scope Cl env) h₀ m₁ G D C' ad .nil st s) (er : ERel S env m C G ad ns ρ) (hC : C ⊆ C')
 (h : ∀ i w, getE i ρ' = some w → (∃ y cv, tg.lookup i = some y ∧ m₁ y = some cv ∧ Rv S G ad w cv) ∨ (tg.lookup i = none ∧ getE i ρ = some w)) :
 Rel S (cns ns scope.names tg) (cenvOf scope Cl env) h₀ m₁ G D C' ad ρ' st s := by
 refine ⟨R.fr, R.nw, R.gd, R.nod, R.hp, fun i w y hi hy => ?_, R.gens, R.drawn, R.os, R.cl⟩
 have hkind : ∀ z, (cenvOf scope Cl env).kindOf z = (relS scope sc).names.lookup z := kindOf_eq (F.comp X Cl)
 rcases h i w hi with ⟨z, cv, h1, h2, r⟩ | ⟨h1, h2⟩
 · rcases cns_get hy with h3 | ⟨h3, -, -⟩
   · rw [h1] at h3; cases h3
     exact ⟨cv, .inl ⟨(hkind _).trans (X.isLocal h1), h2⟩, r⟩
   · rw [h1] at h3; cases h3
 · rcases cns_get hy with h3 | ⟨-, h4, h5⟩
   · rw [h1] at h3; cases h3
   · obtain ⟨cv, va, r⟩ := er i w y h2 h4
     have hm := lookup_memS h5
     have hcell := X.free _ hm rfl
     rcases va with ⟨a, -⟩ | ⟨-, c, o, e1, e2, e3⟩
     · rw [kindOf_eq F, hcell] at a; cases a
     · refine ⟨cv, .inr ⟨?_, c, o, ?_, hC e2, e3⟩, r⟩
       · rw [hkind, relS_lookup, h5]
         rw [Option.map_some]
         split
         · exact .inl rfl
         · exact .inr rfl
       · have := clOf_some (f := cellAt env) scope.names [] (.inl hm)
         obtain ⟨c', hc'⟩ := Option.isSome_iff_exists.mp this
         have := cells_of X F (Cl := Cl) hc'
         rw [e1] at this; cases this
         exact hc'
structure STf (S : Stage) (n : Nat) (sc : Scope) (ns : List (Option PySem.Str)) (ifs : List PySem.Expr) (d : DT) : Prop where I ::
 go : ∀ {A : Around} {E : Value → Shared → Prop} {Q : Bool → Shared → Prop} {env h₀ m G D C ad ρ st s b st'}, Room n A → Fix S sc ns env h₀ → Rel S ns env h₀ m G D C ad ρ st s → d ρ st = .ok b st' →
  (∀ s' G' D' ad', Rel S ns env h₀ m G' D' C ad' ρ st' s' → G ⊆ G' → ad <+: ad' → Q b s') →
  wpAny (model S.prog S.w) A (forIn ifs true fun c r => if r = true then do let ok ← isTrue c env (eval c env); pure (ForInStep.yield ok) else pure (ForInStep.yield r)) Q E s
theorem STf.nil : STf S n sc ns [] tT := ⟨fun zz zz R h q => by
 cases h
 exact wpAny_tests_nil (q _ _ _ _ R (List.Subset.refl _) (List.prefix_refl _))⟩
theorem STf.one {c : PySem.Expr} {d : DT} (h : ST S n sc ns c d) : STf S n sc ns [c] d := ⟨fun hA F R e q => wpAny_tests_one (h.go hA F R e q)⟩
end
end
end Mine
end
section
namespace Mine
open PySem PySem.W PySem.Calls PyProof.Rows
noncomputable section
section
variable {prog : Program} {w : World} {A : Around} {E : Value → Shared → Prop}
theorem compLoop_gen {R : Result → Shared → Prop} {elt target iter : PySem.Expr} {ifs : List PySem.Expr} {scope : Scope} {pos : Pos} {it acc : Value} {env : PySem.Env} {s : Shared} (I : Nat → Shared → Prop)
 (turn : ∀ n s, I n s → wpAny (model prog w) A (pyNext it) (fun r s₁ => match r with
  | none => R (.ok .next) s₁
  | some v => wpAny (model prog w) A (letOwnedTupleGo target it v) (fun zz s₁' => wpAny (model prog w) A (assign target env v) (fun zz s₂ =>
   wpAny (model prog w) A (forIn ifs true fun c r => if r = true then do let ok ← isTrue c env (eval c env); pure (ForInStep.yield ok) else pure (ForInStep.yield r)) (fun ok s₃ =>
    if ok = true then wpAny (model prog w) A (eval elt env) (fun x s₄ =>
     wpAny (model prog w) A (call (.builtin "list.append") [acc, x]) (fun zz s₅ => ∃ m, m < n ∧ I m s₅) (notedBy (model prog w) A env fun e s' => R (.error e) s') s₄) (notedBy (model prog w) A env fun e s' => R (.error e) s') s₃
    else ∃ m, m < n ∧ I m s₃) (notedBy (model prog w) A env fun e s' => R (.error e) s') s₂) (notedBy (model prog w) A env fun e s' => R (.error e) s') s₁') (notedBy (model prog w) A env fun e s' => R (.error e) s') s₁) (notedBy (model prog w) A env fun e s' => R (.error e) s') s)
 (n : Nat) (h : I n s) : codeAny (model prog w) A (.compLoop (.ListComp elt [⟨target, iter, ifs, 0⟩] scope pos) 0 it acc env) R s := by
 refine codeAny_loop rfl I (fun n s hI => ?_) n h
 show wpAny _ A ((compTurn (.ListComp elt [⟨target, iter, ifs, 0⟩] scope pos) 0 it acc env).onRaise (fun x => do noteFrame x env; theTreesLotGoes x)) _ _ s
 refine wpAny_noted ?_
 rw [compTurn_list]
 refine wpAny_bind (wpAny_standAt (wpAny_bind (wpAny_mono (turn n s hI) (fun r s₁ h₁ => ?_) fun zz zz h' => h')))
 cases r with
 | none => exact wpAny_pure h₁
 | some v =>
  refine wpAny_bind (wpAny_mono h₁ (fun zz s₁' h₁' => ?_) fun zz zz h' => h')
  refine wpAny_bind (wpAny_mono h₁' (fun zz s₂ h₂ => wpAny_bind (wpAny_mono h₂ (fun ok s₃ h₃ => ?_) fun zz zz h' => h')) fun zz zz h' => h')
  cases ok with
  | false => exact wpAny_pure ⟨rfl, h₃⟩
  | true =>
   exact wpAny_bind (wpAny_bind (wpAny_mono h₃ (fun x s₄ h₄ => wpAny_bind (wpAny_mono h₄ (fun zz s₅ h₅ => wpAny_pure (wpAny_pure ⟨rfl, h₅⟩)) fun zz zz h' => h')) fun zz zz h' => h'))
theorem compLoop_genD {R : Result → Shared → Prop} {kx vx target iter : PySem.Expr} {ifs : List PySem.Expr} {scope : Scope} {pos : Pos} {it : Value} {D : Addr} {env : PySem.Env} {s : Shared} (I : Nat → Shared → Prop)
 (turn : ∀ n s, I n s → wpAny (model prog w) A (pyNext it) (fun r s₁ => match r with
  | none => R (.ok .next) s₁
  | some v => wpAny (model prog w) A (letOwnedTupleGo target it v) (fun zz s₁' => wpAny (model prog w) A (assign target env v) (fun zz s₂ =>
   wpAny (model prog w) A (forIn ifs true fun c r => if r = true then do let ok ← isTrue c env (eval c env); pure (ForInStep.yield ok) else pure (ForInStep.yield r)) (fun ok s₃ =>
    if ok = true then wpAny (model prog w) A (eval kx env) (fun kv s₄ => wpAny (model prog w) A (eval vx env) (fun vv s₅ =>
     wpAny (model prog w) A (dictSet D kv vv) (fun zz s₆ => ∃ m, m < n ∧ I m s₆) (notedBy (model prog w) A env fun e s' => R (.error e) s') s₅) (notedBy (model prog w) A env fun e s' => R (.error e) s') s₄) (notedBy (model prog w) A env fun e s' => R (.error e) s') s₃
    else ∃ m, m < n ∧ I m s₃) (notedBy (model prog w) A env fun e s' => R (.error e) s') s₂) (notedBy (model prog w) A env fun e s' => R (.error e) s') s₁') (notedBy (model prog w) A env fun e s' => R (.error e) s') s₁) (notedBy (model prog w) A env fun e s' => R (.error e) s') s)
 (n : Nat) (h : I n s) : codeAny (model prog w) A (.compLoop (.DictComp kx vx [⟨target, iter, ifs, 0⟩] scope pos) 0 it (.ref D) env) R s := by
 refine codeAny_loop rfl I (fun n s hI => ?_) n h
 show wpAny _ A ((compTurn (.DictComp kx vx [⟨target, iter, ifs, 0⟩] scope pos) 0 it (.ref D) env).onRaise (fun x => do noteFrame x env; theTreesLotGoes x)) _ _ s
 refine wpAny_noted ?_
 rw [compTurn_dict]
 refine wpAny_bind (wpAny_standAt (wpAny_bind (wpAny_mono (turn n s hI) (fun r s₁ h₁ => ?_) fun zz zz h' => h')))
 cases r with
 | none => exact wpAny_pure h₁
 | some v =>
  refine wpAny_bind (wpAny_mono h₁ (fun zz s₁' h₁' => ?_) fun zz zz h' => h')
  refine wpAny_bind (wpAny_mono h₁' (fun zz s₂ h₂ => wpAny_bind (wpAny_mono h₂ (fun ok s₃ h₃ => ?_) fun zz zz h' => h')) fun zz zz h' => h')
  cases ok with
  | false => exact wpAny_pure ⟨rfl, h₃⟩
  | true =>
   exact wpAny_bind (wpAny_bind (wpAny_mono h₃ (fun kv s₄ h₄ => wpAny_bind (wpAny_holding (wpAny_mono h₄ (fun vv s₅ h₅ => wpAny_bind (wpAny_standAt (wpAny_holding (wpAny_mono h₅ (fun zz s₆ h₆ => wpAny_pure ⟨rfl, h₆⟩) fun zz zz h' => h')))) fun zz zz h' => h'))) fun zz zz h' => h'))
end
section
variable {S : Stage} {n : Nat} {sc scope : Scope} {ns : List (Option PySem.Str)} {tg : List (Nat × PySem.Str)}
def TG (S : Stage) (sc scope : Scope) (ns : List (Option PySem.Str)) (tg : List (Nat × PySem.Str)) (target : PySem.Expr) (bd : V → Env → OL Env) : Prop :=
 ∀ {A : Around} {E : Value → Shared → Prop} {Q : Unit → Shared → Prop} {env h₀ m m₁ G D C C' ad ρ ρ' st s v cv Cl}, A.handled = none → Fix S sc ns env h₀ → CS scope sc tg →
  Rel S (cns ns scope.names tg) (cenvOf scope Cl env) h₀ m₁ G D C' ad .nil st s → ERel S env m C G ad ns ρ → C ⊆ C' → Rv S G ad v cv → bd v ρ = .at ρ' →
  (∀ s' m₂, Rel S (cns ns scope.names tg) (cenvOf scope Cl env) h₀ m₂ G D C' ad ρ' st s' → Q () s') → wpAny (model S.prog S.w) A (assign target (cenvOf scope Cl env) cv) Q E s
theorem CS.loc (X : CS scope sc tg) {env : PySem.Env} {h₀ : Heap} (F : Fix S sc ns env h₀) (Cl : Addr) {i : Nat} {x : PySem.Str} (h : tg.lookup i = some x) : (cenvOf scope Cl env).kindOf x = some .local ∧ ((cenvOf scope Cl env).scope.kind == .class || ((cenvOf scope Cl env).scope.kind == .module && (cenvOf scope Cl env).locals != (cenvOf scope Cl env).globals)) = false := by
 have F' := F.comp X Cl
 refine ⟨(kindOf_eq F' x).trans (X.isLocal h), ?_⟩
 rw [F'.esc, F'.kind]; rfl
theorem Rel.storeNil {ns' : List (Option PySem.Str)} {cenv : PySem.Env} {h₀ h' : Heap} {m₁ m₂ : PySem.Str → Option Value} {G D C : Led} {ad : List Addr} {st : St} {s : Shared} (R : Rel S ns' cenv h₀ m₁ G D C ad .nil st s) (hn : h'.Ns cenv.locals m₂) (hs : Heap.SameBut cenv.locals s.heap h') (tk : Tok) :
 Rel S ns' cenv h₀ m₂ G D C ad .nil st { s with heap := h', toks := tk } :=
 ⟨R.fr.set hn hs, R.nw.set hs, R.gd, R.nod, R.hp, (fun k v x e => by cases k <;> cases e), R.gens, R.drawn, R.os, R.cl⟩
theorem TG.name {k : Nat} {x : PySem.Str} {px : Pos} : TG S sc scope ns [(k, x)] (.Name x px) (fun v ρ => .at (setE k v ρ)) := fun {A E Q env h₀ m m₁ G D C C' ad ρ ρ' st s v cv Cl} hA F X R er hC rv hb q => by
 cases hb
 obtain ⟨hxl, hp⟩ := X.loc F Cl (i := k) (x := x) (by simp [List.lookup])
 refine wpAny_assign_Name (wpAny_storeName_local hxl R.fr.ns (fun h5 hn5 hs5 => ?_) hp)
 refine q _ _ ((R.storeNil hn5 hs5 (s.toks + 1)).targets F X (ρ := ρ) er hC fun i w hi => ?_)
 rcases getE_set k v ρ i w hi with ⟨rfl, rfl⟩ | ⟨hne, hi⟩
 · exact .inl ⟨x, cv, by simp [List.lookup], if_pos rfl, rv⟩
 · refine .inr ⟨?_, hi⟩
   rw [List.lookup_cons, beq_false_of_ne hne]; rfl
def lcsG (h : OL V) (bd : V → Env → OL Env) (t : DT) (e : DE) (ρ : Env) : List V → Nat → St → R (List V)
 | [], i, s => Bool.rec (.bad 36) (.ok .nil s) (fin h i s)
 | x :: l, i, s => OL.rec (.bad 36) (fun x => OL.rec (.bad 36) (fun ρ' => R.rec (fun v s => Bool.rec (lcsG h bd t e ρ l (Nat.succ i) s) (R.rec (fun w s => R.rec (fun ws s => .ok (.cons w ws) s) .bad (lcsG h bd t e ρ l (Nat.succ i) s)) .bad (e ρ' s)) v) .bad (t ρ' s)) (bd x ρ)) (rd h i x s)
def dcsG (bd : V → Env → OL Env) (t : DT) (a e : DE) (ρ : Env) : List V → List (V × V) → St → R (List (V × V))
 | [], d, s => .ok d s
 | x :: l, d, s => OL.rec (.bad 37) (fun ρ' => R.rec (fun v s => Bool.rec (dcsG bd t a e ρ l d s) (R.rec (fun p s => R.rec (fun q s => OL.rec (.bad 37) (fun d => dcsG bd t a e ρ l d s) (dputC p q d)) .bad (e ρ' s)) .bad (a ρ' s)) v) .bad (t ρ' s)) (bd x ρ)
inductive CLI (S : Stage) (ns : List (Option PySem.Str)) (scope : Scope) (tg : List (Nat × PySem.Str)) (env : PySem.Env) (h₀ : Heap) (m : PySem.Str → Option Value) (G C : Led) (ad : List Addr) (ρ : Env) (I acc Cl : Addr) (oL : Obj) (T : Nat → Obj → Prop) (h : OL V) (bd : V → Env → OL Env) (dt : DT) (de : DE) (l ws : List V) (st' : St) (j : Nat) (s2 : Shared) : Prop
 | mk (i : Nat) (m2 : PySem.Str → Option Value) (G2 D2 : Led) (ad2 : List Addr) (st2 : St) (o2 : Obj) (vs : List Value) (e : Nat) (us rest : List V) (x1 : j = l.length - i) (x2 : i ≤ l.length) (x3 : Rel S (cns ns scope.names tg) (cenvOf scope Cl env) h₀ m2 ((I, o2) :: G2) D2 (C ++ [(env.locals, oL), (acc, lstOf vs e)]) ad2 .nil st2 s2)
  (x4 : ERel S env m C G2 ad2 ns ρ) (x5 : G ⊆ G2) (x6 : ad <+: ad2) (x7 : ∀ p ∈ G2, p.1 ≠ I) (x8 : T i o2) (x9 : Rvs S G2 ad2 us vs) (x10 : us.length ≤ i) (x11 : lcsG h bd dt de ρ (l.drop i) i st2 = .ok rest st') (x12 : us ++ rest = ws) : CLI S ns scope tg env h₀ m G C ad ρ I acc Cl oL T h bd dt de l ws st' j s2
theorem comp_loop {A : Around} {RR : Result → Shared → Prop} {env : PySem.Env} {h₀ : Heap} {m m₁ : PySem.Str → Option Value} {G D C : Led} {ad : List Addr} {ρ : Env} {st st' : St} {s : Shared} {I acc Cl : Addr} {oL o : Obj} {T : Nat → Obj → Prop} {bd : V → Env → OL Env} {h : OL V} {l ws : List V}
 {elt iter target : PySem.Expr} {ifs : List PySem.Expr} {pos : Pos} {dt : DT} {de : DE}
 (hA : Room n A) (F : Fix S sc ns env h₀) (X : CS scope sc tg) (B : TG S sc scope ns tg target bd) (W : Wk S I h l G ad T) (ht : STf S n (relS scope sc) (cns ns scope.names tg) ifs dt) (he : SE S n (relS scope sc) (cns ns scope.names tg) elt de)
 (hl : l.length ≤ 4096) (hev : lcsG h bd dt de ρ l 0 st = .ok ws st')
 (Rc : Rel S (cns ns scope.names tg) (cenvOf scope Cl env) h₀ m₁ ((I, o) :: G) D (C ++ [(env.locals, oL), (acc, lstOf [] 0)]) ad .nil st s) (hT : T 0 o) (hne : ∀ p ∈ G, p.1 ≠ I) (er : ERel S env m C G ad ns ρ)
 (hR : ∀ s' m₁ G' D' ad' vs e, Rel S (cns ns scope.names tg) (cenvOf scope Cl env) h₀ m₁ G' D' (C ++ [(env.locals, oL), (acc, lstOf vs e)]) ad' .nil st' s' → ERel S env m C G' ad' ns ρ → G ⊆ G' → ad <+: ad' → Rvs S G' ad' ws vs → RR (.ok .next) s') :
 codeAny (model S.prog S.w) A (.compLoop (.ListComp elt [⟨target, iter, ifs, 0⟩] scope pos) 0 (.ref I) (.ref acc) (cenvOf scope Cl env)) RR s := by
 have F' := F.comp X Cl
 refine compLoop_gen (CLI S ns scope tg env h₀ m G C ad ρ I acc Cl oL T h bd dt de l ws st')
  ?_ l.length ⟨0, m₁, G, D, ad, st, o, [], 0, [], ws, rfl, Nat.zero_le _, Rc, er, List.Subset.refl _, List.prefix_refl _, hne, hT, .nil, Nat.le_refl _, hev, rfl⟩
 rintro j s2 ⟨i, m2, G2, D2, ad2, st2, o2, vs, e, us, rest, rfl, hil, R2, er2, g2, p2, hne2, hT2, rus, hus, hev2, hws⟩
 rcases Nat.lt_or_ge i l.length with hlt | hge
 · have hd : l.drop i = l[i] :: l.drop (i + 1) := by rw [List.drop_eq_getElem_cons hlt]
   have hx : l[i]? = some l[i] := by simp [hlt]
   generalize l[i] = x0 at hd hx
   rw [hd] at hev2
   obtain ⟨v, hr, hev3'⟩ := ol_ok (o := rd h i x0 st2) hev2
   obtain ⟨ρ', hbd, hev3⟩ := ol_ok hev3'
   obtain ⟨b, st3, et, hev4⟩ := R_ok hev3
   refine W.item hA.hd F' R2 (List.Subset.trans g2 (List.subset_cons_self _ _)) p2 (.head _) hT2 hx hr fun h' tk o' cv hk' ho' hT' rv => ?_
   have hi2 := R2.nw _ (List.mem_append_left _ (.head _))
   have R3 := R2.drop (.head _) (W.odd _ _ hT2) tk hk'
   have rv3 := rv.via (R2.gvia (.head _) (W.odd _ _ hT2))
   have hno : Led.no I ((I, o2) :: G2) = G2 := by
    have h1 : Led.no I G2 = G2 := List.filter_eq_self.mpr fun p hp => by simpa using hne2 p hp
    show List.filter _ _ = _
    rw [List.filter_cons_of_neg (by simp)]; exact h1
   rw [hno] at R3 rv3
   have R4 := R3.add (I := I) (o := o') ho' hi2.2.1 hi2.2.2 (fun q hq => R2.gd _ (.head _) q hq)
   dsimp only
   refine letGo_odd ho' (W.odd _ _ hT') ?_
   refine B hA.hd F X R4 (er2.mono (List.subset_cons_self _ _) (List.prefix_refl _)) (List.subset_append_left _ _) (rv3.mono (List.subset_cons_self _ _) (List.prefix_refl _)) hbd fun s6 m6 R6 => ?_
   refine ht.go hA F' R6 et fun s7 G7 D7 ad7 R7 g7 p7 => ?_
   have hI7 : (I, o') ∈ G7 := g7 (.head _)
   cases b with
   | false =>
    have hev5 : lcsG h bd dt de ρ (l.drop (i + 1)) (Nat.succ i) st3 = .ok rest st' := hev4
    have R8 := R7.drop hI7 (W.odd _ _ hT') s7.toks (fun zz zz zz e => e)
    have R9 := R8.add (I := I) (o := o') (R7.nw _ (List.mem_append_left _ hI7)).1 (R7.nw _ (List.mem_append_left _ hI7)).2.1 (R7.nw _ (List.mem_append_left _ hI7)).2.2 (fun q hq => R7.gd _ hI7 q hq)
    have sub : G2 ⊆ Led.no I G7 := sub_no (List.Subset.trans (List.subset_cons_self _ _) g7) hne2
    simp only [Bool.false_eq_true, if_false]
    exact ⟨l.length - (i + 1), by omega, i + 1, _, _, D7, ad7, st3, o', vs, e, us, rest, rfl, hlt, R9.noEnv, er2.mono sub p7, List.Subset.trans g2 sub, p2.trans p7, fun p hp => (mem_no.mp hp).2, hT', rus.mono sub p7, by omega, hev5, hws⟩
   | true =>
    obtain ⟨w, st4, ee, hev5⟩ := R_ok hev4
    obtain ⟨ws', st5, er5, hev6⟩ := R_ok hev5
    cases hev6
    simp only [if_true]
    refine he.go hA F' R7 ee fun s8 G8 D8 ad8 cw R8 g8 p8 rw8 => ?_
    have hI8 : (I, o') ∈ G8 := g8 hI7
    have hacc := R8.accOff (Cl := 0)
    have hvl : vs.length = us.length := rus.length
    have hpl : s8.heap.PlainList acc vs.toArray := ⟨e, hacc.2.2.1⟩
    refine wpAny_list_append_plain (hsz := by rw [sizeLine_eq]; simp; omega) hpl fun h9 hl9 hs9 => ?_
    obtain ⟨e9, hl9⟩ := hl9
    have R9 := R8.noEnv.setAcc (oA' := lstOf (vs ++ [cw]) e9) (fun v hv => by cases hv) s8.toks (fun b o hb eq => (hs9.2 b hb).trans eq) (by rw [hl9]; simp [lstOf])
    have R10 := R9.drop hI8 (W.odd _ _ hT') s8.toks (fun zz zz zz e => e)
    have hh := R9.nw _ (List.mem_append_left _ hI8)
    have R11 := R10.add (I := I) (o := o') hh.1 hh.2.1 hh.2.2 (fun q hq => R9.gd _ hI8 q hq)
    have sub : G2 ⊆ Led.no I G8 := sub_no (List.Subset.trans (List.subset_cons_self _ _) (List.Subset.trans g7 g8)) hne2
    refine ⟨l.length - (i + 1), by omega, i + 1, _, _, D8, ad8, st4, o', vs ++ [cw], e9, us ++ [w], ws', rfl, hlt, R11, er2.mono sub (p7.trans p8), List.Subset.trans g2 sub, p2.trans (p7.trans p8), fun p hp => (mem_no.mp hp).2, hT', ?_, by simp; omega, er5, by simp [← hws]⟩
    exact (rus.mono sub (p7.trans p8)).append (.cons (rw8.via (R8.gvia hI8 (W.odd _ _ hT'))) .nil)
 · have hil : i = l.length := Nat.le_antisymm hil hge
   subst hil
   rw [List.drop_length] at hev2
   have hev2 : (Bool.rec (.bad 36) (.ok .nil st2) (fin h l.length st2) : Mine.R (List V)) = .ok rest st' := hev2
   obtain ⟨hf, hev3⟩ := bt_ok hev2
   cases hev3
   refine W.done hA.hd F' R2 (List.Subset.trans g2 (List.subset_cons_self _ _)) p2 (.head _) hT2 hf fun h' tk hk' => ?_
   have R3 := R2.drop (.head _) (W.odd _ _ hT2) tk hk'
   have sub : G2 ⊆ Led.no I ((I, o2) :: G2) := sub_no (List.subset_cons_self _ _) hne2
   simp only [List.append_nil] at hws
   subst hws
   exact hR _ _ _ _ _ _ _ R3 (er2.mono sub (List.prefix_refl _)) (List.Subset.trans g2 sub) p2 (rus.mono sub (List.prefix_refl _))
end
end
end Mine
end
section
namespace Mine
open PySem PySem.W PySem.Calls PyProof.Rows
noncomputable section
section
variable {S : Stage} {n : Nat} {sc scope : Scope} {ns : List (Option PySem.Str)}
theorem Rel.nsL {env : PySem.Env} {h₀ : Heap} {m : PySem.Str → Option Value} {G D C : Led} {ad : List Addr} {ρ : Env} {st : St} {s : Shared} (R : Rel S ns env h₀ m G D C ad ρ st s) : ∃ oL, s.heap.get? env.locals = some oL ∧ ∀ h : Heap, h.get? env.locals = some oL → h.Ns env.locals m := by
 obtain ⟨o, es, ep, ho, r⟩ := R.fr.ns
 exact ⟨o, ho, fun h e => ⟨o, es, ep, e, r⟩⟩
theorem comp_list {A : Around} {E : Value → Shared → Prop} {Q : Value → Shared → Prop} {env : PySem.Env} {h₀ : Heap} {m : PySem.Str → Option Value} {G D C : Led} {ad : List Addr} {ρ : Env} {st s1 st' : St} {s : Shared} {tg : List (Nat × PySem.Str)} {bd : V → Env → OL Env} {h : OL V} {l ws : List V}
 {elt iter target : PySem.Expr} {ifs : List PySem.Expr} {pos fpos : Pos} {d : DI} {dt : DT} {de : DE} {use : Option (Value → Sem Unit)}
 (hA : Room n A) (F : Fix S sc ns env h₀) (R : Rel S ns env h₀ m G D C ad ρ st s) (X : CS scope sc tg) (B : TG S sc scope ns tg target bd) (hi : SI S n sc ns iter d) (ht : STf S n (relS scope sc) (cns ns scope.names tg) ifs dt) (he : SE S n (relS scope sc) (cns ns scope.names tg) elt de)
 (e1 : d ρ st = .ok (.mk h l) s1) (hl : l.length ≤ 4096) (hev : lcsG h bd dt de ρ l 0 s1 = .ok ws st') (hs : ∀ x, foldedSetIterable iter env x = pure x)
 (q : ∀ s' G' D' ad' acc Cl mC, Rel S ns env h₀ m G' D' C ad' ρ st' s' → G ⊆ G' → ad <+: ad' → Rv S G' ad' (.lst ws) (.ref acc) → s'.heap.Ns Cl mC → Cl ≠ env.locals → h₀.get? Cl = none → (∀ p ∈ G' ++ (D' ++ C), p.1 ≠ Cl) →
  compPost (model S.prog S.w) A E use Q (.ref acc) Cl (.ok .next) s') :
 wpAny (model S.prog S.w) A (comprehension (.ListComp elt [⟨target, iter, ifs, 0⟩] scope pos) scope env fpos (newList []) false (eval iter env) use) Q E s := by
 refine wpAny_comprehension_free rfl hs (X.closure F) X.kind (fun y hy hl => (X.names y hy).trans (by rw [hl])) (hi.go hA F R e1 fun s2 G2 D2 ad2 I o T R2 g2 p2 hne W hT => ?_)
 refine wpAny_newObj_type (wpAny_newFunctionEnv X.nocell (by intro y hy; simp at hy) (fun h₁ hns₁ hsb₁ => ?_) X.kind)
 dsimp only at hns₁ hsb₁ ⊢
 obtain ⟨oL, hL, hnL⟩ := R2.nsL
 generalize hH2 : s2.heap.push { cls := .type "list", dict := none, data := .seq ([] : List Value).toArray } = H2 at hns₁ hsb₁ ⊢
 have hC : H2.objs.size = s2.heap.objs.size + 1 := by rw [← hH2, Heap.size_push]
 have hDC : s2.heap.objs.size ≠ H2.objs.size := by rw [hC]; exact Nat.ne_of_lt (Nat.lt_succ_self _)
 have old : ∀ b o, s2.heap.get? b = some o → h₁.get? b = some o := fun b o e =>
  hsb₁.extBut b o (by rw [hC]; exact Nat.ne_of_lt (Nat.lt_succ_of_lt (Heap.lt_size e))) (Heap.get?_push_of_some _ (hH2 ▸ Heap.get?_push_of_some _ e))
 have hacc : h₁.get? s2.heap.objs.size = some (lstOf [] 0) := hsb₁.extBut _ _ hDC (Heap.get?_push_of_some _ (hH2 ▸ Heap.get?_push_size _ rfl))
 have Rc := R2.enter F X (oA := lstOf [] 0) old hacc hns₁ (Nat.le_refl _) (by rw [hC]; exact Nat.le_succ _) hDC hL s2.toks
 have er : ERel S env m C G2 ad2 ns ρ := by
  have R3 := R2.drop (.head _) (W.odd _ _ hT) s2.toks (fun zz zz zz e => e)
  have hno : Led.no I ((I, o) :: G2) = G2 := by
   have h1 : Led.no I G2 = G2 := List.filter_eq_self.mpr fun p hp => by simpa using hne p hp
   show List.filter _ _ = _
   rw [List.filter_cons_of_neg (by simp)]; exact h1
  rw [hno] at R3
  exact R3.er
 have loop : codeAny (model S.prog S.w) A (.compLoop (.ListComp elt [⟨target, iter, ifs, 0⟩] scope pos) 0 (.ref I) (.ref s2.heap.objs.size) (cenvOf scope H2.objs.size env))
  (compPost (model S.prog S.w) A E use Q (.ref s2.heap.objs.size) H2.objs.size) { s2 with heap := h₁, toks := s2.toks } := by
  refine comp_loop hA F X B W ht he hl hev Rc hT hne er fun s' m₁ G' D' ad' vs e R5 er5 g5 p5 rws => ?_
  obtain ⟨a1, a2, a3, a4⟩ := R5.accOff (Cl := 0)
  have R6 := R5.leave (Cl := H2.objs.size) er5 hnL R2.fr.above R2.cl
  have R7 := R6.add a3 a2 a4 a1
  have nc := R5.nw
  have hLn := nc (env.locals, oL) (by simp)
  refine q s' _ D' ad' _ H2.objs.size m₁ R7 (List.Subset.trans g2 (List.Subset.trans g5 (List.subset_cons_self _ _))) (p2.trans p5) (.lst _ _ _ e (.inl (.head _)) (rws.mono (List.subset_cons_self _ _) (List.prefix_refl _))) R5.fr.ns (Ne.symm hLn.2.1) ?_ fun p hp => ?_
  · exact getNone (Nat.le_trans (Nat.le_of_lt (Nat.lt_of_le_of_lt R2.fr.above (Heap.lt_size hL))) (by rw [hC]; exact Nat.le_succ _))
  · rw [List.cons_append] at hp
    rcases List.mem_cons.mp hp with rfl | hp
    · exact hDC
    · exact (nc p (by simp only [List.mem_append] at hp ⊢; rcases hp with h | h | h <;> simp [h])).2.1
 exact codeAny_compStart_list loop (W.self (F.comp X H2.objs.size) Rc (List.subset_cons_self _ _) (.head _) hT loop)
theorem lcs_G {h : OL V} {k : Nat} {t : DT} {e : DE} {ρ : Env} : ∀ {l : List V} {i : Nat} {st : St}, lcs h k t e ρ l i st = lcsG h (fun v ρ => .at (setE k v ρ)) t e ρ l i st
 | [], _, _ => rfl
 | x :: l, i, st => by
  have e1 : (fun s => lcs h k t e ρ l (Nat.succ i) s) = fun s => lcsG h (fun v ρ => .at (setE k v ρ)) t e ρ l (Nat.succ i) s := funext fun s => lcs_G
  show (OL.rec (.bad 36) (fun x => R.rec (fun v s => Bool.rec (lcs h k t e ρ l (Nat.succ i) s) (R.rec (fun w s => R.rec (fun ws s => .ok (.cons w ws) s) .bad ((fun s => lcs h k t e ρ l (Nat.succ i) s) s)) .bad (e (setE k x ρ) s)) v) .bad (t (setE k x ρ) st)) (rd h i x st) : R (List V)) = _
  rw [e1]
  simp only [lcs_G (l := l)]
  rfl
def bd2 (k k' : Nat) (v : V) (ρ : Env) : OL Env := pair v .no fun p q => .at (setE k' q (setE k p ρ))
theorem pair_cases {β : Type} (v : V) (e : β) (f : V → V → β) : (∃ p q, v = .tup [p, q] ∧ pair v e f = f p q) ∨ ((∀ {γ : Type} (e : γ) (f : V → V → γ), pair v e f = e)) := by
 cases v with
 | tup l =>
  match l with
  | [] => exact .inr fun zz zz => rfl
  | [_] => exact .inr fun zz zz => rfl
  | [p, q] => exact .inl ⟨p, q, rfl, rfl⟩
  | _ :: _ :: _ :: _ => exact .inr fun zz zz => rfl
 | _ => exact .inr fun zz zz => rfl
theorem lcs2_G {k k' : Nat} {t : DT} {e : DE} {ρ : Env} : ∀ {l : List V} {i : Nat} {st : St}, lcs2 k k' t e ρ l st = lcsG .no (bd2 k k') t e ρ l i st
 | [], _, _ => rfl
 | x :: l, i, st => by
  show (pair x (.bad 36) fun p q => R.rec (fun b s => Bool.rec (lcs2 k k' t e ρ l s) (R.rec (fun w s => R.rec (fun ws s => .ok (.cons w ws) s) .bad (lcs2 k k' t e ρ l s)) .bad (e (setE k' q (setE k p ρ)) s)) b) .bad (t (setE k' q (setE k p ρ)) st) : R (List V)) = _
  simp only [lcs2_G (l := l) (i := i + 1)]
  show _ = (OL.rec (.bad 36) (fun ρ' => R.rec (fun v s => Bool.rec (lcsG .no (bd2 k k') t e ρ l (i + 1) s) (R.rec (fun w s => R.rec (fun ws s => .ok (.cons w ws) s) .bad (lcsG .no (bd2 k k') t e ρ l (i + 1) s)) .bad (e ρ' s)) v) .bad (t ρ' st)) (bd2 k k' x ρ) : R (List V))
  rcases pair_cases x (.no : OL Env) (fun p q => .at (setE k' q (setE k p ρ))) with ⟨p, q, rfl, h⟩ | h
  · rfl
  · have e2 : bd2 k k' x ρ = .no := h _ _
    rw [e2, h]
theorem SE.lcomp {elt iter : PySem.Expr} {ifs : List PySem.Expr} {x : PySem.Str} {px pos : Pos} {k : Nat} {d : DI} {dt : DT} {de : DE} (X : CS scope sc [(k, x)]) (hi : SI S n sc ns iter d) (ht : STf S n (relS scope sc) (cns ns scope.names [(k, x)]) ifs dt) (he : SE S n (relS scope sc) (cns ns scope.names [(k, x)]) elt de)
 (hs : ∀ env x, foldedSetIterable iter env x = pure x := by intro _ _; rfl) :
 SE S n sc ns (.ListComp elt [⟨.Name x px, iter, ifs, 0⟩] scope pos) (lcomp k d dt de) := ⟨fun hA F R h q => by
 obtain ⟨⟨hh, l⟩, s1, e1, h1⟩ := R_ok h
 have h1 : (Bool.rec (.bad 36) (Mine.R.rec (fun v s => .ok (.lst v) s) .bad (lcs hh k dt de _ l 0 s1)) (Nat.ble (len l) cap) : Mine.R V) = _ := h1
 obtain ⟨hl, h2⟩ := bt_ok h1
 obtain ⟨ws, s2, e2, h3⟩ := R_ok h2
 rw [lcs_G] at e2
 cases h3
 rw [eval_ListComp]
 refine comp_list hA F R X TG.name hi ht he e1 (by have := Nat.le_of_ble_eq_true hl; rwa [len_eq] at this) e2 (hs _) fun s' G' D' ad' acc Cl mC R1 g1 p1 r hn hL h0 hne => ?_
 exact ⟨mC, hn, fun h' hs' => q _ _ _ _ _ (R1.off hL h0 hne fun b o hb e => (hs'.2 b hb).trans e) g1 p1 r⟩⟩
theorem S1.asgL {elt iter : PySem.Expr} {ifs : List PySem.Expr} {x y : PySem.Str} {px py pos spos : Pos} {k j : Nat} {d : DI} {dt : DT} {de : DE} (X : CS scope sc [(k, x)]) (hi : SI S n sc ns iter d) (ht : STf S n (relS scope sc) (cns ns scope.names [(k, x)]) ifs dt) (he : SE S n (relS scope sc) (cns ns scope.names [(k, x)]) elt de)
 (e : ns[j]? = some (some y)) (hk : sc.names.lookup y = some .local)
 (hsw : ∀ env : PySem.Env, env.scope = sc → swapsWith (.ListComp elt [⟨.Name x px, iter, ifs, 0⟩] scope pos) (some (.Name y py)) spos.line env = pure true)
 (hs : ∀ env x, foldedSetIterable iter env x = pure x := by intro _ _; rfl) :
 S1 S n sc ns (.Assign [.Name y py] (.ListComp elt [⟨.Name x px, iter, ifs, 0⟩] scope pos) spos) (Mine.asg j (lcomp k d dt de)) := ⟨fun {A E Q env h₀ m G D C ad ρ st s} hA F R hb q => by
 obtain ⟨v, s3, e3, eq⟩ := RS_ok hb
 have eq : Mine.asg j (lcomp k d dt de) _ _ = _ := eq
 obtain ⟨⟨hh, l⟩, s1, e1, h1⟩ := R_ok e3
 have h1 : (Bool.rec (.bad 36) (Mine.R.rec (fun v s => .ok (.lst v) s) .bad (lcs hh k dt de ρ l 0 s1)) (Nat.ble (len l) cap) : Mine.R V) = _ := h1
 obtain ⟨hl, h2⟩ := bt_ok h1
 obtain ⟨ws, s2, e2, h3⟩ := R_ok h2
 rw [lcs_G] at e2
 cases h3
 rw [eq] at q
 rw [exec_Assign_Name_used _ _ _ _ (hsw _ F.esc)]
 refine wpAny_bind (wpAny_standAt (wpAny_bind ?_))
 show wpAny _ A (do let _ ← comprehension (.ListComp elt [⟨.Name x px, iter, ifs, 0⟩] scope pos) scope env _ (newList []) false (eval iter env) (some (assign (.Name y py) env))) _ _ s
 refine wpAny_bind (wpAny_mono (comp_list (use := some (assign (.Name y py) env)) (Q := fun zz s' => Q .next s') hA F R X TG.name hi ht he e1 (by have := Nat.le_of_ble_eq_true hl; rwa [len_eq] at this) e2 (hs _)
  fun s' G' D' ad' acc Cl mC R1 g1 p1 r hn hL h0 hne => ?_) (fun zz s' hq => wpAny_pure (wpAny_pure hq)) fun zz zz e => e)
 have hkind : env.scope.kind = .function := by rw [F.esc]; exact F.kind
 have hl' : env.kindOf y = some .local := (kindOf_eq F y).trans hk
 show wpAny _ A (assign (.Name y py) env (.ref acc)) _ _ _
 refine wpAny_assign_Name (wpAny_storeName_local hl' R1.fr.ns (fun h₂ hn₂ hs₂ => ?_) (by rw [hkind]; rfl))
 refine ⟨mC, hn.sameBut hs₂ hL, fun h₃ hs₃ => ?_⟩
 have R2 : Rel S ns env h₀ (fun z => if z = y then some (.ref acc) else m z) G' D' C ad' (setE j (.lst ws) ρ) s3 { s' with heap := h₂, toks := s'.toks + 1 } := by
  refine ⟨R1.fr.set hn₂ hs₂, R1.nw.set hs₂, R1.gd, R1.nod, R1.hp, fun i w z hi hz => ?_, R1.gens, R1.drawn, R1.os, R1.cl⟩
  rcases getE_set j _ ρ i w hi with ⟨rfl, rfl⟩ | ⟨hne, hi⟩
  · rw [e] at hz; cases hz
    exact ⟨_, .inl ⟨hl', if_pos rfl⟩, r⟩
  · obtain ⟨c', va, r'⟩ := R1.er i w z hi hz
    refine ⟨c', ?_, r'⟩
    rcases va with ⟨a, b⟩ | a
    · exact .inl ⟨a, (if_neg fun (q : z = y) => hne (F.ninj i j z hz (by rw [q]; exact e))).trans b⟩
    · exact .inr a
 exact q _ _ ⟨rfl, _, G', D', C, ad', R2.off hL h0 hne fun b o hb e => (hs₃.2 b hb).trans e, g1, p1, rfl⟩⟩
set_option tactic.hygienic true in
theorem TG.pair {k k' : Nat} {x x' : PySem.Str} {px px' tp : Pos} {y} (hk : k ≠ k') (hx : x ≠ x') : TG S sc scope ns [(k, x), (k', x')] (.Tuple [.Name x px, .Name x' px'] y tp) (bd2 k k') := fun {A E Q env h₀ m m₁ G D C C' ad ρ ρ' st s v cv Cl} hA F X R er hC rv hb q => by
 rcases pair_cases v (.no : OL Env) (fun p q => .at (setE k' q (setE k p ρ))) with ⟨p, r, rfl, h⟩ | h
 · have hb : (OL.at (setE k' r (setE k p ρ)) : OL Env) = .at ρ' := hb
   cases hb
   apply Rv.etup rv; intro vs a nn o rs
   cases rs with
   | cons r1 rs =>
    cases rs with
    | cons r2 rs =>
     cases rs
     rename_i c1 c2
     have F' := F.comp X Cl
     have ha := R.obs F' o
     refine assign_Tuple_tuple hA (items := #[c1, c2]) ⟨_, ha, rfl, nn, rfl⟩ rfl rfl fun h1 hs1 => ?_
     have hsz : ∀ p ∈ G ++ (D ++ C'), p.1 ≠ s.heap.objs.size := fun p hp => Nat.ne_of_lt (R.lt p hp)
     have hLs : (cenvOf scope Cl env).locals < s.heap.objs.size := R.fr.ns.lt
     have R1 : Rel S (cns ns scope.names [(k, x), (k', x')]) (cenvOf scope Cl env) h₀ m₁ G D C' ad .nil st { s with heap := h1 } :=
      R.off (Ne.symm (Nat.ne_of_lt hLs)) (getNone (Nat.le_trans R.fr.above (Nat.le_of_lt hLs))) hsz fun b o hb e => hs1 b o hb e
     obtain ⟨hxl, hp⟩ := X.loc F Cl (i := k) (x := x) (by simp [List.lookup])
     obtain ⟨hxl', hp'⟩ := X.loc F Cl (i := k') (x := x') (by rw [List.lookup_cons, beq_false_of_ne (Ne.symm hk), List.lookup_cons, beq_self_eq_true])
     refine assignInOrder_cons (wpAny_assign_Name (wpAny_storeName_local hxl R1.fr.ns (fun h5 hn5 hs5 => ?_) hp))
     have R2 := R1.storeNil hn5 hs5 (s.toks + 1)
     refine assignInOrder_cons (wpAny_assign_Name (wpAny_storeName_local hxl' R2.fr.ns (fun h6 hn6 hs6 => assignInOrder_nil ?_) hp'))
     have R3 := R2.storeNil hn6 hs6 (s.toks + 1 + 1)
     refine q _ _ (R3.targets F X (ρ := ρ) er hC fun i w hi => ?_)
     rcases getE_set k' r _ i w hi with ⟨rfl, rfl⟩ | ⟨hne, hi⟩
     · exact .inl ⟨x', c2, by rw [List.lookup_cons, beq_false_of_ne (Ne.symm hk), List.lookup_cons, beq_self_eq_true], if_pos rfl, r2⟩
     · rcases getE_set k p ρ i w hi with ⟨rfl, rfl⟩ | ⟨hne2, hi⟩
       · exact .inl ⟨x, c1, by simp [List.lookup], by rw [if_neg hx, if_pos rfl], r1⟩
       · refine .inr ⟨?_, hi⟩
         rw [List.lookup_cons, beq_false_of_ne hne2, List.lookup_cons, beq_false_of_ne hne]; rfl
 · have hb : bd2 k k' v ρ = .at ρ' := hb
   have e2 : bd2 k k' v ρ = .no := h _ _
   rw [e2] at hb; cases hb
theorem SE.lcomp2 {elt iter : PySem.Expr} {ifs : List PySem.Expr} {x x' : PySem.Str} {px px' tp pos : Pos} {y} {k k' : Nat} {d : DI} {dt : DT} {de : DE} (X : CS scope sc [(k, x), (k', x')]) (hk : k ≠ k') (hx : x ≠ x') (hi : SI S n sc ns iter d) (ht : STf S n (relS scope sc) (cns ns scope.names [(k, x), (k', x')]) ifs dt) (he : SE S n (relS scope sc) (cns ns scope.names [(k, x), (k', x')]) elt de)
 (hs : ∀ env x, foldedSetIterable iter env x = pure x := by intro _ _; rfl) :
 SE S n sc ns (.ListComp elt [⟨.Tuple [.Name x px, .Name x' px'] y tp, iter, ifs, 0⟩] scope pos) (Mine.lcomp2 k k' d dt de) := ⟨fun hA F R h q => by
 obtain ⟨⟨hh, l⟩, s1, e1, h1⟩ := R_ok h
 cases hh with
 | «at» _ => cases h1
 | no =>
  have h1 : (Bool.rec (.bad 36) (Mine.R.rec (fun v s => .ok (.lst v) s) .bad (lcs2 k k' dt de _ l s1)) (Nat.ble (len l) cap) : Mine.R V) = _ := h1
  obtain ⟨hl, h2⟩ := bt_ok h1
  obtain ⟨ws, s2, e2, h3⟩ := R_ok h2
  rw [lcs2_G (i := 0)] at e2
  cases h3
  rw [eval_ListComp]
  refine comp_list hA F R X (TG.pair hk hx) hi ht he e1 (by have := Nat.le_of_ble_eq_true hl; rwa [len_eq] at this) e2 (hs _) fun s' G' D' ad' acc Cl mC R1 g1 p1 r hn hL h0 hne => ?_
  exact ⟨mC, hn, fun h' hs' => q _ _ _ _ _ (R1.off hL h0 hne fun b o hb e => (hs'.2 b hb).trans e) g1 p1 r⟩⟩
end
end
end Mine
end
section
namespace Mine
open PySem PySem.W PySem.Calls PyProof.Rows
noncomputable section
section
variable {S : Stage} {G : Led} {ad : List Addr} {s : Shared}
theorem key_str {j : Nat} {k : PySem.Str} {e : DictEntry} (h1 : Value.isStrOf (S.nm j) e.key = true) (h2 : Value.isStrOf k e.key = true) (h3 : e.hash = hashStr S.w k) : Rk S (.str j) e := by
 obtain ⟨hash, key, val⟩ := e
 have h3 : hash = hashStr S.w k := h3
 subst h3
 obtain ⟨t, e1⟩ := Value.isStrOf_shape (show Value.isStrOf (S.nm j) key = true from h1)
 obtain ⟨t2, e2⟩ := Value.isStrOf_shape (show Value.isStrOf k key = true from h2)
 subst e1
 injection e2 with e2 e3
 subst e2
 exact .str _ _ _
set_option tactic.hygienic true in
theorem rds_str {l : List (V × V)} : ∀ {es : List DictEntry} {kvs : List (PySem.Str × Value)}, Pairs (PySem.strKind S.prog S.w) es kvs → (∀ e ∈ es, ∃ k, Value.isStrOf k e.key = true ∧ e.hash = hashStr S.w k) → All2 (StrP S G ad) l kvs → Rds S G ad l es := by
 induction l with
 | nil =>
  intro es kvs hp hk r
  cases r
  cases hp
  exact .nil
 | cons p l ih =>
  intro es kvs hp hk r
  cases r with
  | cons h r =>
   cases hp with
   | cons p1 p2 p3 =>
    rename_i kv kvs e es
    obtain ⟨a, v⟩ := p
    obtain ⟨j, cv⟩ := kv
    obtain ⟨⟨i, h1, h3⟩, h2⟩ := h
    have h1 : a = .str i := h1
    have h3 : j = S.nm i := h3
    subst h1; subst h3
    obtain ⟨k, k1, k2⟩ := hk e (.head _)
    have p2 : e.val = cv := p2
    subst p2
    exact .cons (key_str p1 k1 k2) h2 (ih p3 (fun e he => hk e (.tail _ he)) r)
theorem dput_cons {k x a v : V} {l : List (V × V)} : dput k x ((a, v) :: l) = (Bool.rec ((a, v) :: dput k x l) ((a, x) :: l) (keyEq a k) : List (V × V)) := rfl
theorem stored_cons {K : Type} [DecidableEq K] {a k : K} {u v : Value} {l : List (K × Value)} (hn : a ∉ l.map (·.1)) : stored ((a, u) :: l) k v = if a = k then (a, v) :: l else (a, u) :: stored l k v := by
 unfold stored
 by_cases h : a = k
 · subst h
   have e : l.map (fun kv => if kv.1 = a then (kv.1, v) else kv) = l := by
    have : l.map (fun kv => if kv.1 = a then (kv.1, v) else kv) = l.map id := List.map_congr_left fun q hq => by
     have : q.1 ≠ a := fun e => hn (e ▸ List.mem_map_of_mem hq)
     simp [this]
    rw [this, List.map_id]
   simp [e]
 · simp only [List.any_cons, h, decide_false, Bool.false_or, if_false, List.map_cons]
   by_cases h2 : (l.any fun kv => decide (kv.1 = k)) = true
   · rw [if_pos h2, if_pos h2]
   · rw [if_neg h2, if_neg h2]; rfl
theorem all2_int {x : V} {cx : Value} {i : Int} (r : Rv S G ad x cx) : ∀ {l : List (V × V)} {kvs : List (Int × Value)}, All2 (IntP S G ad) l kvs → (kvs.map (·.1)).Nodup → All2 (IntP S G ad) (dput (.int i) x l) (stored kvs i cx) := fun z => by
 induction z with
 | nil => exact fun zz => .cons ⟨rfl, r⟩ .nil
 | @cons p q l kvs pq t ih =>
  intro hn
  obtain ⟨a, v⟩ := p
  obtain ⟨j, cv⟩ := q
  obtain ⟨h1, h2⟩ := pq
  have h1 : a = .int j := h1
  subst h1
  rw [List.map_cons, List.nodup_cons] at hn
  rw [dput_cons, stored_cons hn.1]
  have e1 : keyEq (.int j) (.int i) = eqI j i := rfl
  rw [e1, eqI_eq]
  by_cases q : j = i
  · subst q
    rw [if_pos rfl]
    simp only [beq_self_eq_true]
    exact .cons ⟨rfl, r⟩ t
  · have q1 : (j == i) = false := by simpa using q
    rw [if_neg q, q1]
    exact .cons ⟨rfl, h2⟩ (ih hn.2)
theorem all2_str {x : V} {cx : Value} {i : Nat} (r : Rv S G ad x cx) : ∀ {l : List (V × V)} {kvs : List (PySem.Str × Value)}, All2 (StrP S G ad) l kvs → (kvs.map (·.1)).Nodup → All2 (StrP S G ad) (dput (.str i) x l) (stored kvs (S.nm i) cx) := fun z => by
 induction z with
 | nil => exact fun zz => .cons ⟨⟨i, rfl, rfl⟩, r⟩ .nil
 | @cons p q l kvs pq t ih =>
  intro hn
  obtain ⟨a, v⟩ := p
  obtain ⟨y, cv⟩ := q
  obtain ⟨⟨j, h1, hy⟩, h2⟩ := pq
  have h1 : a = .str j := h1
  have hy : y = S.nm j := hy
  subst h1; subst hy
  rw [List.map_cons, List.nodup_cons] at hn
  rw [dput_cons, stored_cons hn.1]
  have e1 : keyEq (.str j) (.str i) = Nat.beq j i := rfl
  rw [e1, BT.beq_eq]
  by_cases q : j = i
  · subst q
    rw [if_pos rfl]
    simp only [decide_true]
    exact .cons ⟨⟨j, rfl, rfl⟩, r⟩ t
  · have q2 : ¬ S.nm j = S.nm i := fun e => q (S.inj _ _ e)
    rw [if_neg q2, decide_eq_false q]
    exact .cons ⟨⟨j, rfl, rfl⟩, h2⟩ (ih hn.2)
theorem dictOf_eq {o' : Obj} {es' : Array DictEntry} {ep : Nat} (x1 : o'.cls = .type "dict" ∧ o'.dict = Option.none ∧ o'.slots = #[]) (x2 : o'.data = .dict es' ep) : o' = dictOf es'.toList ep := by
 obtain ⟨c1, d1, t1, sl1⟩ := o'
 obtain ⟨y1, y2, y3⟩ := x1
 have y1 : c1 = .type "dict" := y1
 have y2 : d1 = none := y2
 have y3 : sl1 = #[] := y3
 have x2 : t1 = .dict es' ep := x2
 subst y1; subst y2; subst y3; subst x2
 simp
theorem dputC_ok {k x : V} {l l' : List (V × V)} (h : dputC k x l = .at l') : sameK k l = true ∧ uniq l = true ∧ l.length ≤ 4096 ∧ l' = dput k x l := by
 have h : (Bool.rec .no (Bool.rec .no (Bool.rec .no (.at (dput k x l)) (Nat.ble (len l) 4096)) (uniq l)) (sameK k l) : OL (List (V × V))) = .at l' := h
 cases q : sameK k l with
 | false => rw [q] at h; cases h
 | true =>
  rw [q] at h
  cases q2 : uniq l with
  | false =>
   have h : (Bool.rec .no (Bool.rec .no (.at (dput k x l)) (Nat.ble (len l) 4096)) (uniq l) : OL (List (V × V))) = .at l' := h
   rw [q2] at h; cases h
  | true =>
   have h : (Bool.rec .no (Bool.rec .no (.at (dput k x l)) (Nat.ble (len l) 4096)) (uniq l) : OL (List (V × V))) = .at l' := h
   rw [q2] at h
   cases q3 : Nat.ble (len l) 4096 with
   | false =>
    have h : (Bool.rec .no (.at (dput k x l)) (Nat.ble (len l) 4096) : OL (List (V × V))) = .at l' := h
    rw [q3] at h; cases h
   | true =>
    have h : (Bool.rec .no (.at (dput k x l)) (Nat.ble (len l) 4096) : OL (List (V × V))) = .at l' := h
    rw [q3] at h; cases h
    exact ⟨rfl, rfl, by have := Nat.le_of_ble_eq_true q3; rwa [len_eq] at this, rfl⟩
theorem dict_set {A : Around} {E : Value → Shared → Prop} {Q : Unit → Shared → Prop} {k x : V} {ck cx : Value} {l l' : List (V × V)} {es : List DictEntry} {a : Addr} {nn : Nat} (hd : Rds S G ad l es) (h : dputC k x l = .at l') (rk : Rv S G ad k ck) (rx : Rv S G ad x cx)
 (ha : s.heap.get? a = some (dictOf es nn))
 (q : ∀ h' es' n', h'.get? a = some (dictOf es' n') → Rds S G ad l' es' → Heap.SameBut a s.heap h' → Q () { s with heap := h', toks := s.toks + 1 }) : wpAny (model S.prog S.w) A (dictSet a ck cx) Q E s := by
 obtain ⟨hk, hu, hl, rfl⟩ := dputC_ok h
 rcases sameK_kind hk with ⟨i, rfl⟩ | ⟨i, rfl⟩
 · obtain ⟨kvs, k1, k2, k3⟩ := kvs_int hd hk hu
   have hdo : s.heap.DictOf (PySem.intKind S.prog S.w) a kvs := ⟨_, es.toArray, nn, ha, ⟨rfl, rfl, rfl⟩, rfl, (dict_int hd hk).1, by simpa using k1, k2⟩
   have hkey : (PySem.intKind S.prog S.w).is i ck = true := by cases rk; exact beq_self_eq_true i
   refine wpAny_dictSet_pairs hkey hdo (fun h' hd' hs' => ?_) (by rw [sizeLine_eq, ← k3.length]; omega)
   obtain ⟨o', ho', es', ep, x1, x2, x3, x4, x5⟩ := Heap.dictOf_iff.mp hd'
   have eo := dictOf_eq x1 x2
   subst eo
   exact q h' _ ep ho' (rds_int x4 (fun e he => x3 e (by simpa using he)) (all2_int rx k3 k2)) hs'
 · obtain ⟨kvs, k1, k2, k3⟩ := kvs_str hd hk hu
   have hdo : s.heap.DictOf (PySem.strKind S.prog S.w) a kvs := ⟨_, es.toArray, nn, ha, ⟨rfl, rfl, rfl⟩, rfl, (dict_str hd hk).1, by simpa using k1, k2⟩
   have hkey : (PySem.strKind S.prog S.w).is (S.nm i) ck = true := by cases rk; exact beq_self_eq_true (S.nm i)
   refine wpAny_dictSet_pairs hkey hdo (fun h' hd' hs' => ?_) (by rw [sizeLine_eq, ← k3.length]; omega)
   obtain ⟨o', ho', es', ep, x1, x2, x3, x4, x5⟩ := Heap.dictOf_iff.mp hd'
   have eo := dictOf_eq x1 x2
   subst eo
   exact q h' _ ep ho' (rds_str x4 (fun e he => x3 e (by simpa using he)) (all2_str rx k3 k2)) hs'
end
end
end Mine
end
section
namespace Mine
open PySem PySem.W PySem.Calls PyProof.Rows
noncomputable section
section
variable {S : Stage} {n : Nat} {sc scope : Scope} {ns : List (Option PySem.Str)} {tg : List (Nat × PySem.Str)}
inductive DLI (S : Stage) (ns : List (Option PySem.Str)) (scope : Scope) (tg : List (Nat × PySem.Str)) (env : PySem.Env) (h₀ : Heap) (m : PySem.Str → Option Value) (G C : Led) (ad : List Addr) (ρ : Env) (I acc Cl : Addr) (oL : Obj) (T : Nat → Obj → Prop) (bd : V → Env → OL Env) (dt : DT) (da de : DE) (l : List V) (ds : List (V × V)) (st' : St) (j : Nat) (s2 : Shared) : Prop
 | mk (i : Nat) (m2 : PySem.Str → Option Value) (G2 D2 : Led) (ad2 : List Addr) (st2 : St) (o2 : Obj) (vs : List DictEntry) (e : Nat) (us : List (V × V)) (x1 : j = l.length - i) (x2 : i ≤ l.length) (x3 : Rel S (cns ns scope.names tg) (cenvOf scope Cl env) h₀ m2 ((I, o2) :: G2) D2 (C ++ [(env.locals, oL), (acc, dictOf vs e)]) ad2 .nil st2 s2)
  (x4 : ERel S env m C G2 ad2 ns ρ) (x5 : G ⊆ G2) (x6 : ad <+: ad2) (x7 : ∀ p ∈ G2, p.1 ≠ I) (x8 : T i o2) (x9 : Rds S G2 ad2 us vs) (x10 : dcsG bd dt da de ρ (l.drop i) us st2 = .ok ds st') : DLI S ns scope tg env h₀ m G C ad ρ I acc Cl oL T bd dt da de l ds st' j s2
theorem comp_loopD {A : Around} {RR : Result → Shared → Prop} {env : PySem.Env} {h₀ : Heap} {m m₁ : PySem.Str → Option Value} {G D C : Led} {ad : List Addr} {ρ : Env} {st st' : St} {s : Shared} {I acc Cl : Addr} {oL o : Obj} {T : Nat → Obj → Prop} {bd : V → Env → OL Env} {l : List V} {ds : List (V × V)}
 {kx vx iter target : PySem.Expr} {ifs : List PySem.Expr} {pos : Pos} {dt : DT} {da de : DE}
 (hA : Room n A) (F : Fix S sc ns env h₀) (X : CS scope sc tg) (B : TG S sc scope ns tg target bd) (W : Wk S I .no l G ad T) (ht : STf S n (relS scope sc) (cns ns scope.names tg) ifs dt) (ha : SE S n (relS scope sc) (cns ns scope.names tg) kx da) (he : SE S n (relS scope sc) (cns ns scope.names tg) vx de)
 (hev : dcsG bd dt da de ρ l [] st = .ok ds st')
 (Rc : Rel S (cns ns scope.names tg) (cenvOf scope Cl env) h₀ m₁ ((I, o) :: G) D (C ++ [(env.locals, oL), (acc, dictOf [] 0)]) ad .nil st s) (hT : T 0 o) (hne : ∀ p ∈ G, p.1 ≠ I) (er : ERel S env m C G ad ns ρ)
 (hR : ∀ s' m₁ G' D' ad' vs e, Rel S (cns ns scope.names tg) (cenvOf scope Cl env) h₀ m₁ G' D' (C ++ [(env.locals, oL), (acc, dictOf vs e)]) ad' .nil st' s' → ERel S env m C G' ad' ns ρ → G ⊆ G' → ad <+: ad' → Rds S G' ad' ds vs → RR (.ok .next) s') :
 codeAny (model S.prog S.w) A (.compLoop (.DictComp kx vx [⟨target, iter, ifs, 0⟩] scope pos) 0 (.ref I) (.ref acc) (cenvOf scope Cl env)) RR s := by
 have F' := F.comp X Cl
 refine compLoop_genD (DLI S ns scope tg env h₀ m G C ad ρ I acc Cl oL T bd dt da de l ds st')
  ?_ l.length ⟨0, m₁, G, D, ad, st, o, [], 0, [], rfl, Nat.zero_le _, Rc, er, List.Subset.refl _, List.prefix_refl _, hne, hT, .nil, hev⟩
 rintro j s2 ⟨i, m2, G2, D2, ad2, st2, o2, vs, e, us, rfl, hil, R2, er2, g2, p2, hne2, hT2, rus, hev2⟩
 rcases Nat.lt_or_ge i l.length with hlt | hge
 · have hd : l.drop i = l[i] :: l.drop (i + 1) := by rw [List.drop_eq_getElem_cons hlt]
   have hx : l[i]? = some l[i] := by simp [hlt]
   generalize l[i] = x0 at hd hx
   rw [hd] at hev2
   obtain ⟨ρ', hbd, hev3⟩ := ol_ok (o := bd x0 ρ) hev2
   obtain ⟨b, st3, et, hev4⟩ := R_ok hev3
   refine W.item hA.hd F' R2 (List.Subset.trans g2 (List.subset_cons_self _ _)) p2 (.head _) hT2 hx rfl fun h' tk o' cv hk' ho' hT' rv => ?_
   have hi2 := R2.nw _ (List.mem_append_left _ (.head _))
   have R3 := R2.drop (.head _) (W.odd _ _ hT2) tk hk'
   have rv3 := rv.via (R2.gvia (.head _) (W.odd _ _ hT2))
   have hno : Led.no I ((I, o2) :: G2) = G2 := by
    have h1 : Led.no I G2 = G2 := List.filter_eq_self.mpr fun p hp => by simpa using hne2 p hp
    show List.filter _ _ = _
    rw [List.filter_cons_of_neg (by simp)]; exact h1
   rw [hno] at R3 rv3
   have R4 := R3.add (I := I) (o := o') ho' hi2.2.1 hi2.2.2 (fun q hq => R2.gd _ (.head _) q hq)
   dsimp only
   refine letGo_odd ho' (W.odd _ _ hT') ?_
   refine B hA.hd F X R4 (er2.mono (List.subset_cons_self _ _) (List.prefix_refl _)) (List.subset_append_left _ _) (rv3.mono (List.subset_cons_self _ _) (List.prefix_refl _)) hbd fun s6 m6 R6 => ?_
   refine ht.go hA F' R6 et fun s7 G7 D7 ad7 R7 g7 p7 => ?_
   have hI7 : (I, o') ∈ G7 := g7 (.head _)
   cases b with
   | false =>
    have hev5 : dcsG bd dt da de ρ (l.drop (i + 1)) us st3 = .ok ds st' := hev4
    have R8 := R7.drop hI7 (W.odd _ _ hT') s7.toks (fun zz zz zz e => e)
    have R9 := R8.add (I := I) (o := o') (R7.nw _ (List.mem_append_left _ hI7)).1 (R7.nw _ (List.mem_append_left _ hI7)).2.1 (R7.nw _ (List.mem_append_left _ hI7)).2.2 (fun q hq => R7.gd _ hI7 q hq)
    have sub : G2 ⊆ Led.no I G7 := sub_no (List.Subset.trans (List.subset_cons_self _ _) g7) hne2
    simp only [Bool.false_eq_true, if_false]
    exact ⟨l.length - (i + 1), by omega, i + 1, _, _, D7, ad7, st3, o', vs, e, us, rfl, hlt, R9.noEnv, er2.mono sub p7, List.Subset.trans g2 sub, p2.trans p7, fun p hp => (mem_no.mp hp).2, hT', rus.mono sub p7, hev5⟩
   | true =>
    obtain ⟨p, st4, ea, hev5⟩ := R_ok hev4
    obtain ⟨w, st5, ee, hev6⟩ := R_ok hev5
    obtain ⟨us', hdp, hev7⟩ := ol_ok hev6
    simp only [if_true]
    refine ha.go hA F' R7 ea fun s8 G8 D8 ad8 cp R8 g8 p8 rp8 => ?_
    refine he.go hA F' R8 ee fun s9 G9 D9 ad9 cw R9 g9 p9 rw9 => ?_
    have hI9 : (I, o') ∈ G9 := g9 (g8 hI7)
    have hacc := R9.accOff (Cl := 0)
    have g29 : G2 ⊆ G9 := List.Subset.trans (List.subset_cons_self _ _) (List.Subset.trans g7 (List.Subset.trans g8 g9))
    have p29 := p7.trans (p8.trans p9)
    refine dict_set (rus.mono g29 p29) hdp (rp8.mono g9 p9) rw9 hacc.2.2.1 fun h' es' n' hd' rds' hs' => ?_
    have R10 := R9.noEnv.setAcc (oA' := dictOf es' n') (fun v hv => by cases hv) (s9.toks + 1) (fun b o hb eq => (hs'.2 b hb).trans eq) hd'
    have R11 := R10.drop hI9 (W.odd _ _ hT') (s9.toks + 1) (fun zz zz zz e => e)
    have hh := R10.nw _ (List.mem_append_left _ hI9)
    have R12 := R11.add (I := I) (o := o') hh.1 hh.2.1 hh.2.2 (fun q hq => R10.gd _ hI9 q hq)
    have sub : G2 ⊆ Led.no I G9 := sub_no g29 hne2
    exact ⟨l.length - (i + 1), by omega, i + 1, _, _, D9, ad9, st5, o', es', n', us', rfl, hlt, R12, er2.mono sub p29, List.Subset.trans g2 sub, p2.trans p29, fun p hp => (mem_no.mp hp).2, hT', rds'.via (R9.gvia hI9 (W.odd _ _ hT')), hev7⟩
 · have hil : i = l.length := Nat.le_antisymm hil hge
   subst hil
   rw [List.drop_length] at hev2
   cases hev2
   refine W.done hA.hd F' R2 (List.Subset.trans g2 (List.subset_cons_self _ _)) p2 (.head _) hT2 rfl fun h' tk hk' => ?_
   have R3 := R2.drop (.head _) (W.odd _ _ hT2) tk hk'
   have sub : G2 ⊆ Led.no I ((I, o2) :: G2) := sub_no (List.subset_cons_self _ _) hne2
   exact hR _ _ _ _ _ _ _ R3 (er2.mono sub (List.prefix_refl _)) (List.Subset.trans g2 sub) p2 (rus.mono sub (List.prefix_refl _))
theorem comp_dict {A : Around} {E : Value → Shared → Prop} {Q : Value → Shared → Prop} {env : PySem.Env} {h₀ : Heap} {m : PySem.Str → Option Value} {G D C : Led} {ad : List Addr} {ρ : Env} {st s1 st' : St} {s : Shared} {tg : List (Nat × PySem.Str)} {bd : V → Env → OL Env} {l : List V} {ds : List (V × V)}
 {kx vx iter target : PySem.Expr} {ifs : List PySem.Expr} {pos fpos : Pos} {d : DI} {dt : DT} {da de : DE} {use : Option (Value → Sem Unit)}
 (hA : Room n A) (F : Fix S sc ns env h₀) (R : Rel S ns env h₀ m G D C ad ρ st s) (X : CS scope sc tg) (B : TG S sc scope ns tg target bd) (hi : SI S n sc ns iter d) (ht : STf S n (relS scope sc) (cns ns scope.names tg) ifs dt) (ha : SE S n (relS scope sc) (cns ns scope.names tg) kx da) (he : SE S n (relS scope sc) (cns ns scope.names tg) vx de)
 (e1 : d ρ st = .ok (.mk .no l) s1) (hev : dcsG bd dt da de ρ l [] s1 = .ok ds st') (hs : ∀ x, foldedSetIterable iter env x = pure x)
 (q : ∀ s' G' D' ad' acc Cl mC, Rel S ns env h₀ m G' D' C ad' ρ st' s' → G ⊆ G' → ad <+: ad' → Rv S G' ad' (.dct ds) (.ref acc) → s'.heap.Ns Cl mC → Cl ≠ env.locals → h₀.get? Cl = none → (∀ p ∈ G' ++ (D' ++ C), p.1 ≠ Cl) →
  compPost (model S.prog S.w) A E use Q (.ref acc) Cl (.ok .next) s') :
 wpAny (model S.prog S.w) A (comprehension (.DictComp kx vx [⟨target, iter, ifs, 0⟩] scope pos) scope env fpos newDict false (eval iter env) use) Q E s := by
 refine wpAny_comprehension_free rfl hs (X.closure F) X.kind (fun y hy hl => (X.names y hy).trans (by rw [hl])) (hi.go hA F R e1 fun s2 G2 D2 ad2 I o T R2 g2 p2 hne W hT => ?_)
 refine wpAny_newObj_type (wpAny_newFunctionEnv X.nocell (by intro y hy; simp at hy) (fun h₁ hns₁ hsb₁ => ?_) X.kind)
 dsimp only at hns₁ hsb₁ ⊢
 obtain ⟨oL, hL, hnL⟩ := R2.nsL
 generalize hH2 : s2.heap.push { cls := .type "dict", dict := none, data := .dict #[] } = H2 at hns₁ hsb₁ ⊢
 have hC : H2.objs.size = s2.heap.objs.size + 1 := by rw [← hH2, Heap.size_push]
 have hDC : s2.heap.objs.size ≠ H2.objs.size := by rw [hC]; exact Nat.ne_of_lt (Nat.lt_succ_self _)
 have old : ∀ b o, s2.heap.get? b = some o → h₁.get? b = some o := fun b o e =>
  hsb₁.extBut b o (by rw [hC]; exact Nat.ne_of_lt (Nat.lt_succ_of_lt (Heap.lt_size e))) (Heap.get?_push_of_some _ (hH2 ▸ Heap.get?_push_of_some _ e))
 have hacc : h₁.get? s2.heap.objs.size = some (dictOf [] 0) := hsb₁.extBut _ _ hDC (Heap.get?_push_of_some _ (hH2 ▸ Heap.get?_push_size _ rfl))
 have Rc := R2.enter F X (oA := dictOf [] 0) old hacc hns₁ (Nat.le_refl _) (by rw [hC]; exact Nat.le_succ _) hDC hL s2.toks
 have er : ERel S env m C G2 ad2 ns ρ := by
  have R3 := R2.drop (.head _) (W.odd _ _ hT) s2.toks (fun zz zz zz e => e)
  have hno : Led.no I ((I, o) :: G2) = G2 := by
   have h1 : Led.no I G2 = G2 := List.filter_eq_self.mpr fun p hp => by simpa using hne p hp
   show List.filter _ _ = _
   rw [List.filter_cons_of_neg (by simp)]; exact h1
  rw [hno] at R3
  exact R3.er
 have loop : codeAny (model S.prog S.w) A (.compLoop (.DictComp kx vx [⟨target, iter, ifs, 0⟩] scope pos) 0 (.ref I) (.ref s2.heap.objs.size) (cenvOf scope H2.objs.size env))
  (compPost (model S.prog S.w) A E use Q (.ref s2.heap.objs.size) H2.objs.size) { s2 with heap := h₁, toks := s2.toks } := by
  refine comp_loopD hA F X B W ht ha he hev Rc hT hne er fun s' m₁ G' D' ad' vs e R5 er5 g5 p5 rws => ?_
  obtain ⟨a1, a2, a3, a4⟩ := R5.accOff (Cl := 0)
  have R6 := R5.leave (Cl := H2.objs.size) er5 hnL R2.fr.above R2.cl
  have R7 := R6.add a3 a2 a4 a1
  have nc := R5.nw
  have hLn := nc (env.locals, oL) (by simp)
  refine q s' _ D' ad' _ H2.objs.size m₁ R7 (List.Subset.trans g2 (List.Subset.trans g5 (List.subset_cons_self _ _))) (p2.trans p5) (.dct _ _ _ e (.inl (.head _)) (rws.mono (List.subset_cons_self _ _) (List.prefix_refl _))) R5.fr.ns (Ne.symm hLn.2.1) ?_ fun p hp => ?_
  · exact getNone (Nat.le_trans (Nat.le_of_lt (Nat.lt_of_le_of_lt R2.fr.above (Heap.lt_size hL))) (by rw [hC]; exact Nat.le_succ _))
  · rw [List.cons_append] at hp
    rcases List.mem_cons.mp hp with rfl | hp
    · exact hDC
    · exact (nc p (by simp only [List.mem_append] at hp ⊢; rcases hp with h | h | h <;> simp [h])).2.1
 exact codeAny_compStart_dict loop (W.self (F.comp X H2.objs.size) Rc (List.subset_cons_self _ _) (.head _) hT loop)
theorem dcs_G {k : Nat} {t : DT} {a e : DE} {ρ : Env} : ∀ {l : List V} {d : List (V × V)} {st : St}, dcs k t a e ρ l d st = dcsG (fun v ρ => .at (setE k v ρ)) t a e ρ l d st
 | [], _, _ => rfl
 | x :: l, d, st => by
  show (R.rec (fun v s => Bool.rec (dcs k t a e ρ l d s) (R.rec (fun p s => R.rec (fun q s => OL.rec (.bad 37) (fun d => dcs k t a e ρ l d s) (dputC p q d)) .bad (e (setE k x ρ) s)) .bad (a (setE k x ρ) s)) v) .bad (t (setE k x ρ) st) : R (List (V × V))) = _
  simp only [dcs_G (l := l)]
  rfl
theorem dcs2_G {k k' : Nat} {t : DT} {a e : DE} {ρ : Env} {l : List V} {d : List (V × V)} {st st' : St} {r : List (V × V)} (h : dcs2 k k' t a e ρ l d st = .ok r st') : dcsG (bd2 k k') t a e ρ l d st = .ok r st' := by
 induction l generalizing d st with
 | nil => exact h
 | cons x l ih =>
  have h : (pair x (.bad 38) fun m n => R.rec (fun b s => Bool.rec (dcs2 k k' t a e ρ l d s) (R.rec (fun p s => R.rec (fun q s => OL.rec (.bad 37) (fun d => dcs2 k k' t a e ρ l d s) (dputC p q d)) .bad (e (setE k' n (setE k m ρ)) s)) .bad (a (setE k' n (setE k m ρ)) s)) b) .bad (t (setE k' n (setE k m ρ)) st) : R (List (V × V))) = .ok r st' := h
  show (OL.rec (.bad 37) (fun ρ' => R.rec (fun v s => Bool.rec (dcsG (bd2 k k') t a e ρ l d s) (R.rec (fun p s => R.rec (fun q s => OL.rec (.bad 37) (fun d => dcsG (bd2 k k') t a e ρ l d s) (dputC p q d)) .bad (e ρ' s)) .bad (a ρ' s)) v) .bad (t ρ' st)) (bd2 k k' x ρ) : R (List (V × V))) = _
  rcases pair_cases x (.no : OL Env) (fun p q => .at (setE k' q (setE k p ρ))) with ⟨y, z, rfl, hp⟩ | hp
  · have h : (R.rec (fun b s => Bool.rec (dcs2 k k' t a e ρ l d s) (R.rec (fun p s => R.rec (fun q s => OL.rec (.bad 37) (fun d => dcs2 k k' t a e ρ l d s) (dputC p q d)) .bad (e (setE k' z (setE k y ρ)) s)) .bad (a (setE k' z (setE k y ρ)) s)) b) .bad (t (setE k' z (setE k y ρ)) st) : R (List (V × V))) = .ok r st' := h
    show (R.rec (fun v s => Bool.rec (dcsG (bd2 k k') t a e ρ l d s) (R.rec (fun p s => R.rec (fun q s => OL.rec (.bad 37) (fun d => dcsG (bd2 k k') t a e ρ l d s) (dputC p q d)) .bad (e (setE k' z (setE k y ρ)) s)) .bad (a (setE k' z (setE k y ρ)) s)) v) .bad (t (setE k' z (setE k y ρ)) st) : R (List (V × V))) = _
    obtain ⟨b, s1, e1, h1⟩ := R_ok h
    rw [e1]
    cases b with
    | false => exact ih h1
    | true =>
     obtain ⟨u, s2, e2, h2⟩ := R_ok h1
     obtain ⟨w, s3, e3, h3⟩ := R_ok h2
     obtain ⟨d', e4, h4⟩ := ol_ok h3
     show (R.rec (fun p s => R.rec (fun q s => OL.rec (.bad 37) (fun d => dcsG (bd2 k k') t a e ρ l d s) (dputC p q d)) .bad (e (setE k' z (setE k y ρ)) s)) .bad (a (setE k' z (setE k y ρ)) s1) : R (List (V × V))) = _
     rw [e2]
     show (R.rec (fun q s => OL.rec (.bad 37) (fun d => dcsG (bd2 k k') t a e ρ l d s) (dputC u q d)) .bad (e (setE k' z (setE k y ρ)) s2) : R (List (V × V))) = _
     rw [e3]
     show (OL.rec (.bad 37) (fun d => dcsG (bd2 k k') t a e ρ l d s3) (dputC u w d) : R (List (V × V))) = _
     rw [e4]
     exact ih h4
  · rw [hp] at h; cases h
theorem SE.dcomp {kx vx iter : PySem.Expr} {ifs : List PySem.Expr} {x : PySem.Str} {px pos : Pos} {k : Nat} {d : DI} {dt : DT} {da de : DE} (X : CS scope sc [(k, x)]) (hi : SI S n sc ns iter d) (ht : STf S n (relS scope sc) (cns ns scope.names [(k, x)]) ifs dt) (ha : SE S n (relS scope sc) (cns ns scope.names [(k, x)]) kx da) (he : SE S n (relS scope sc) (cns ns scope.names [(k, x)]) vx de)
 (hs : ∀ env x, foldedSetIterable iter env x = pure x := by intro _ _; rfl) :
 SE S n sc ns (.DictComp kx vx [⟨.Name x px, iter, ifs, 0⟩] scope pos) (dcomp k d dt da de) := ⟨fun hA F R h q => by
 obtain ⟨⟨hh, l⟩, s1, e1, h1⟩ := R_ok h
 obtain ⟨rfl, h1⟩ : hh = .no ∧ (Bool.rec (.bad 37) (Mine.R.rec (fun v s => .ok (.dct v) s) .bad (dcs k dt da de _ l [] s1)) (Nat.ble (len l) cap) : Mine.R V) = _ := by
  cases hh with
  | no => exact ⟨rfl, h1⟩
  | «at» _ => cases h1
 obtain ⟨hl, h2⟩ := bt_ok h1
 obtain ⟨ws, s2, e2, h3⟩ := R_ok h2
 rw [dcs_G] at e2
 cases h3
 rw [arm_eval_DictComp]
 refine comp_dict hA F R X TG.name hi ht ha he e1 e2 (hs _) fun s' G' D' ad' acc Cl mC R1 g1 p1 r hn hL h0 hne => ?_
 exact ⟨mC, hn, fun h' hs' => q _ _ _ _ _ (R1.off hL h0 hne fun b o hb e => (hs'.2 b hb).trans e) g1 p1 r⟩⟩
theorem SE.dcomp2 {kx vx iter : PySem.Expr} {ifs : List PySem.Expr} {x x' : PySem.Str} {px px' tp pos : Pos} {y} {k k' : Nat} {d : DI} {dt : DT} {da de : DE} (X : CS scope sc [(k, x), (k', x')]) (hk : k ≠ k') (hx : x ≠ x') (hi : SI S n sc ns iter d) (ht : STf S n (relS scope sc) (cns ns scope.names [(k, x), (k', x')]) ifs dt) (ha : SE S n (relS scope sc) (cns ns scope.names [(k, x), (k', x')]) kx da) (he : SE S n (relS scope sc) (cns ns scope.names [(k, x), (k', x')]) vx de)
 (hs : ∀ env x, foldedSetIterable iter env x = pure x := by intro _ _; rfl) :
 SE S n sc ns (.DictComp kx vx [⟨.Tuple [.Name x px, .Name x' px'] y tp, iter, ifs, 0⟩] scope pos) (Mine.dcomp2 k k' d dt da de) := ⟨fun hA F R h q => by
 obtain ⟨⟨hh, l⟩, s1, e1, h1⟩ := R_ok h
 cases hh with
 | «at» _ => cases h1
 | no =>
  have h1 : (Bool.rec (.bad 38) (Mine.R.rec (fun v s => .ok (.dct v) s) .bad (dcs2 k k' dt da de _ l [] s1)) (Nat.ble (len l) cap) : Mine.R V) = _ := h1
  obtain ⟨hl, h2⟩ := bt_ok h1
  obtain ⟨ws, s2, e2, h3⟩ := R_ok h2
  replace e2 := dcs2_G e2
  cases h3
  rw [arm_eval_DictComp]
  refine comp_dict hA F R X (TG.pair hk hx) hi ht ha he e1 e2 (hs _) fun s' G' D' ad' acc Cl mC R1 g1 p1 r hn hL h0 hne => ?_
  exact ⟨mC, hn, fun h' hs' => q _ _ _ _ _ (R1.off hL h0 hne fun b o hb e => (hs'.2 b hb).trans e) g1 p1 r⟩⟩
end
end
end Mine
end
section
namespace Mine
open PySem PySem.W PySem.Calls PyProof.Rows
noncomputable section
section
variable {S : Stage} {n : Nat} {sc : Scope} {ns : List (Option PySem.Str)}
theorem SE.neg {i j : Int} {k : Nat} {p pos : Pos} (e : j = -i := by kernel_rfl) : SE S n sc ns (.UnaryOp .USub (.Constant (.int i) k p) pos) (cst (.int j)) := ⟨fun {A E Q env h₀ m G D C ad ρ st s v st'} hA F R h q => by
 subst e
 cases h
 refine wpAny_UnaryOp ((SE.int (S := S) (n := n) (sc := sc) (ns := ns) (i := i) (k := k) (pos := p)).go hA F R rfl fun s' G' D' ad' cv R1 g1 p1 r => ?_)
 cases r
 exact neg_int (q _ _ _ _ _ (R1.toks _) g1 p1 (.int _ _))⟩
theorem evs_one {a : DE} {ρ : Env} {st s1 : St} {v : V} (e1 : a ρ st = .ok v s1) : evs [a] ρ st = .ok [v] s1 := by
 show (R.rec (fun v s => R.rec (fun vs s => .ok (.cons v vs) s) .bad (evs [] ρ s)) .bad (a ρ st) : R (List V)) = _
 rw [e1]; rfl
theorem evs_more {a : DE} {as : List DE} {ρ : Env} {st s1 s2 : St} {v : V} {vs : List V} (e1 : a ρ st = .ok v s1) (e2 : evs as ρ s1 = .ok vs s2) : evs (a :: as) ρ st = .ok (v :: vs) s2 := by
 show (R.rec (fun v s => R.rec (fun vs s => .ok (.cons v vs) s) .bad (evs as ρ s)) .bad (a ρ st) : R (List V)) = _
 rw [e1]
 show (R.rec (fun vs s => .ok (.cons v vs) s) .bad (evs as ρ s1) : R (List V)) = _
 rw [e2]
theorem fits {i : Int} (h1 : -5000 ≤ i) (h2 : i ≤ 5000) : Builtin.Range.rangeFitsLong i = true := by
 unfold Builtin.Range.rangeFitsLong
 simp only [Bool.and_eq_true, decide_eq_true_eq]
 omega
theorem size_one {a b : Int} : Builtin.Range.rangeSize a b 1 = if a < b then b - a else 0 := by
 unfold Builtin.Range.rangeSize
 rw [if_pos (by decide)]
 by_cases h : a < b
 · rw [if_pos h, if_pos h]; simp
 · rw [if_neg h, if_neg h]
theorem small_up {m k : Nat} (hm : m ≤ 4096) (hk : k ≤ 4096) : Builtin.Range.small m k 1 = true := small_one (by omega) (by omega) (by omega) (by omega)
theorem size_down (k : Nat) : Builtin.Range.rangeSize k (-1) (-1) = ((k + 1 : Nat) : Int) := by
 unfold Builtin.Range.rangeSize
 rw [if_neg (by decide), if_pos (by omega)]
 simp
theorem small_down {k : Nat} (hk : k ≤ 4096) : Builtin.Range.small k (-1) (-1) = true := by
 unfold Builtin.Range.small
 rw [size_down, fits (by omega) (by omega), fits (i := -1) (by omega) (by omega), fits (i := ((k + 1 : Nat) : Int)) (by omega) (by omega)]
 simp only [Bool.and_true, Bool.true_and, Bool.or_eq_true]
 right
 rw [if_neg (by decide)]
 exact fits (by omega) (by omega)
variable (hrg : bootBuiltins "range" = some (.type "range"))
theorem SI.range1 {e : PySem.Expr} {x : PySem.Str} {p pos : Pos} {a : DE} (ha : SE S n sc ns e a) (hv : bootBuiltins x = some (.type "range")) (hn : x ≠ "__name__") (hx : (x == ("__debug__" : PySem.Str)) = false)
 (e0 : nsIn S.K mainGlobals x = some Option.none) (hk : sc.names.lookup x = some .globalImplicit)
 (hp : ∀ env pos, (backTo pos (starEach [e] env)).any (·.1) = false) (hst : ∀ env, starEach [e] env = (false, eval e env) :: starEach [] env)
 (he : ∀ env, eval (.Call (.Name x p) [e] [] pos) env = (do callWith pos (← eval (.Name x p) env) [] (backTo pos (starEach [e] env)) (backToKw pos (keywordEach [] env)))) :
 SI S n sc ns (.Call (.Name x p) [e] [] pos) (itR1 a) := ⟨fun hA F R h q => by
 obtain ⟨v, s1, e1, h1⟩ := R_ok h
 obtain ⟨i, rfl, h2⟩ := onI_ok h1
 obtain ⟨k, rfl, h3⟩ := ir_ok h2
 obtain ⟨hl, h4⟩ := bt_ok h3
 obtain ⟨rfl, rfl, rfl⟩ := It_inj h4
 have hk4 : k ≤ 4096 := Nat.le_of_ble_eq_true hl
 refine call_name hA F R (SEs.cons ha SEs.nil hst) (evs_one e1) hv (fun zz => nofun) hn hx e0 hk hp he fun s' G' D' ad' cs R1 g1 p1 r => ?_
 cases r with
 | cons r1 r2 =>
  cases r2
  apply Rv.eint r1; intro t
  refine call_range_1 ?_
  have hl : (upto k 0).length = k := upto_length k 0
  refine iter_range (l := upto k 0) R1 _ (small_up (m := 0) (by omega) hk4) ?_ (fun i x hx => upto_get k 0 i x hx) fun s2 G2 D2 ad2 I o T R2 g2 p2 => q s2 G2 D2 ad2 I o T R2 (List.Subset.trans g1 g2) (p1.trans p2)
  rw [hl, size_one]
  by_cases h : (0 : Int) < k
  · rw [if_pos h]; omega
  · rw [if_neg h]; omega⟩
theorem SI.range2 {e f : PySem.Expr} {x : PySem.Str} {p pos : Pos} {a b : DE} (ha : SE S n sc ns e a) (hb : SE S n sc ns f b) (hv : bootBuiltins x = some (.type "range")) (hn : x ≠ "__name__") (hx : (x == ("__debug__" : PySem.Str)) = false)
 (e0 : nsIn S.K mainGlobals x = some Option.none) (hk : sc.names.lookup x = some .globalImplicit)
 (hp : ∀ env pos, (backTo pos (starEach [e, f] env)).any (·.1) = false) (hst : ∀ env, starEach [e, f] env = (false, eval e env) :: starEach [f] env) (hst' : ∀ env, starEach [f] env = (false, eval f env) :: starEach [] env)
 (he : ∀ env, eval (.Call (.Name x p) [e, f] [] pos) env = (do callWith pos (← eval (.Name x p) env) [] (backTo pos (starEach [e, f] env)) (backToKw pos (keywordEach [] env)))) :
 SI S n sc ns (.Call (.Name x p) [e, f] [] pos) (itR2 a b) := ⟨fun hA F R h q => by
 obtain ⟨v, s1, e1, h1⟩ := R_ok h
 obtain ⟨v', s2, e2, h1'⟩ := R_ok h1
 obtain ⟨i, rfl, h2⟩ := onI_ok h1'
 obtain ⟨j, rfl, h2'⟩ := onI_ok h2
 obtain ⟨m, rfl, h3⟩ := ir_ok h2'
 obtain ⟨hm, h4⟩ := bt_ok h3
 obtain ⟨k, rfl, h5⟩ := ir_ok h4
 obtain ⟨hl, h6⟩ := bt_ok h5
 obtain ⟨rfl, rfl, rfl⟩ := It_inj h6
 have hk4 : k ≤ 4096 := Nat.le_of_ble_eq_true hl
 have hm4 : m ≤ 4096 := Nat.le_of_ble_eq_true hm
 refine call_name hA F R (SEs.cons ha (SEs.cons hb SEs.nil hst') hst) (evs_more e1 (evs_one e2)) hv (fun zz => nofun) hn hx e0 hk hp he fun s' G' D' ad' cs R1 g1 p1 r => ?_
 cases r with
 | cons r1 r2 =>
  cases r2 with
  | cons r2 r3 =>
   cases r3
   apply Rv.eint r1; intro t
   apply Rv.eint r2; intro u
   refine call_range_2 ?_
   have hl : (upto (k - m) m).length = k - m := upto_length (k - m) m
   refine iter_range (l := upto (k - m) m) R1 _ (small_up hm4 hk4) ?_ (fun i x hx => upto_get (k - m) m i x hx) fun s2 G2 D2 ad2 I o T R2 g2 p2 => q s2 G2 D2 ad2 I o T R2 (List.Subset.trans g1 g2) (p1.trans p2)
   rw [hl, size_one]
   by_cases h : (m : Int) < k
   · rw [if_pos h]; omega
   · rw [if_neg h]; omega⟩
theorem SI.down {e f g : PySem.Expr} {x : PySem.Str} {p pos : Pos} {a : DE} (ha : SE S n sc ns e a) (hf : SE S n sc ns f (cst (.int (-1)))) (hg : SE S n sc ns g (cst (.int (-1)))) (hv : bootBuiltins x = some (.type "range")) (hn : x ≠ "__name__") (hx : (x == ("__debug__" : PySem.Str)) = false)
 (e0 : nsIn S.K mainGlobals x = some Option.none) (hk : sc.names.lookup x = some .globalImplicit)
 (hp : ∀ env pos, (backTo pos (starEach [e, f, g] env)).any (·.1) = false) (hst : ∀ env, starEach [e, f, g] env = (false, eval e env) :: starEach [f, g] env) (hst' : ∀ env, starEach [f, g] env = (false, eval f env) :: starEach [g] env) (hst2 : ∀ env, starEach [g] env = (false, eval g env) :: starEach [] env)
 (he : ∀ env, eval (.Call (.Name x p) [e, f, g] [] pos) env = (do callWith pos (← eval (.Name x p) env) [] (backTo pos (starEach [e, f, g] env)) (backToKw pos (keywordEach [] env)))) :
 SI S n sc ns (.Call (.Name x p) [e, f, g] [] pos) (itDown a) := ⟨fun hA F R h q => by
 obtain ⟨v, s1, e1, h1⟩ := R_ok h
 obtain ⟨i, rfl, h2⟩ := onI_ok h1
 obtain ⟨k, rfl, h3⟩ := ir_ok h2
 obtain ⟨hl, h4⟩ := bt_ok h3
 obtain ⟨rfl, rfl, rfl⟩ := It_inj h4
 have hk4 : k ≤ 4096 := Nat.le_of_ble_eq_true hl
 refine call_name hA F R (SEs.cons ha (SEs.cons hf (SEs.cons hg SEs.nil hst2) hst') hst) (evs_more e1 (evs_more rfl (evs_one rfl))) hv (fun zz => nofun) hn hx e0 hk hp he fun s' G' D' ad' cs R1 g1 p1 r => ?_
 cases r with
 | cons r1 r2 =>
  cases r2 with
  | cons r2 r3 =>
   cases r3 with
   | cons r3 r4 =>
    cases r4
    apply Rv.eint r1; intro t
    apply Rv.eint r2; intro u
    apply Rv.eint r3; intro w
    refine call_range_3 (by decide) ?_ (Or.inl (PyProof.noPylong_small (by decide)))
    have hl : (downs (k + 1)).length = k + 1 := downs_length (k + 1)
    refine iter_range (l := downs (k + 1)) R1 _ (small_down hk4) (by rw [hl, size_down]) (fun i x hx => downs_get k i x hx) fun s2 G2 D2 ad2 I o T R2 g2 p2 => q s2 G2 D2 ad2 I o T R2 (List.Subset.trans g1 g2) (p1.trans p2)⟩
end
end
end Mine
end
section
namespace Mine
open PySem PySem.W PySem.Calls PyProof.Rows PySem.SeqAt
noncomputable section
section
variable {S : Stage} {n : Nat} {sc : Scope} {ns : List (Option PySem.Str)}
theorem meth_call {A : Around} {E : Value → Shared → Prop} {Q : Value → Shared → Prop} {env : PySem.Env} {h₀ : Heap} {m : PySem.Str → Option Value} {G D C : Led} {ad : List Addr} {ρ : Env} {st s1 st' : St} {s : Shared} {o : PySem.Expr} {name : PySem.Str} {ap pos : Pos} {es : List PySem.Expr} {d : DE} {ds : List DE} {pl : PySem.Env → Sem Bool} {v : V} {vs : List V} {T id : String}
 (hA : Room n A) (F : Fix S sc ns env h₀) (R : Rel S ns env h₀ m G D C ad ρ st s) (ho : SE S n sc ns o d) (hs : SEs S n sc ns es ds) (e1 : d ρ st = .ok v s1) (e2 : evs ds ρ s1 = .ok vs st')
 (pa : PlainAttrs T) (slot : Slot T name id) (hty : typeOf (.builtin id) = pure (.type "method_descriptor"))
 (hT : ∀ {s' : Shared} {G' D' : Led} {ad' : List Addr} {cv : Value}, Rel S ns env h₀ m G' D' C ad' ρ s1 s' → Rv S G' ad' v cv → s'.TypeIs cv T ∧ ∀ a, cv = .ref a → ∃ o, s'.heap.get? a = some o ∧ o.dict = none)
 (hp : ∀ env pos, (backTo pos (starEach es env)).any (·.1) = false)
 (he : ∀ env, eval (.Call (.Attribute o name ap) es [] pos) env = (do
  let ov ← eval o env
  standAt ap.atName
  let (f, first) ← holding [ov] (getMethod ov name (pl env))
  callWith pos f first (backTo pos (starEach es env)) []))
 (q : ∀ s' G' D' ad' cv cs, Rel S ns env h₀ m G' D' C ad' ρ st' s' → G ⊆ G' → ad <+: ad' → Rv S G' ad' v cv → Rvs S G' ad' vs cs → wpAny (model S.prog S.w) A (call (.builtin id) (cv :: cs)) Q E s') :
 wpAny (model S.prog S.w) A (eval (.Call (.Attribute o name ap) es [] pos) env) Q E s := by
 refine MethodCall_ (pl := pl _) (ho.go hA F R e1 fun s' G' D' ad' cv R1 g1 p1 r => ?_) (he _)
 obtain ⟨h1, h2⟩ := hT R1 r
 refine getMethod_builtin h1 pa slot hty h2 ?_
 refine callWith_of (P := fun zz => True) (by rw [hp]; rfl) (fun zz zz => keeps_blt (fun zz h => by cases h) _) (evalArgs_some (hp _ _) ?_)
 exact hs.go hA F R1 e2 fun s'' G'' D'' ad'' cs R2 g2 p2 r2 => ⟨trivial, q _ _ _ _ _ _ R2 (List.Subset.trans g1 g2) (p1.trans p2) (r.mono g2 p2) r2⟩
section
variable {env : PySem.Env} {h₀ : Heap} {m : PySem.Str → Option Value} {G D C : Led} {ad : List Addr} {ρ : Env} {st : St} {s : Shared}
theorem Rel.change (R : Rel S ns env h₀ m G D C ad ρ st s) {i : Nat} {d a : Addr} {ob ob' : Obj} {o o₀ : O} {h' : Heap} (t : Tok) (h : D[i]? = some (d, ob)) (ha : ad[i]? = some a) (h0 : atT st.t i = some o₀) (hs : Heap.SameBut d s.heap h') (ho' : h'.get? d = some ob')
 (ho : ObRel S G ad o a d ob') : Rel S ns env h₀ m G (D.set i (d, ob')) C ad ρ ⟨setT st.t i o, st.n⟩ { s with heap := h', toks := t } := by
 have hd := R.nw (d, ob) (List.mem_append_right _ (List.mem_append_left _ (List.mem_of_getElem? h)))
 have U := R.updD (ob' := ob') h
 obtain ⟨pre, post, e1, e2, n1, n2⟩ := U.split
 refine R.put t h ha h0 (frBut R.fr (fun b o hb e => (hs.2 b hb).trans e) hd.2.1 hd.2.2) (fun p hp => ?_) ho
 rw [e2] at hp
 have hp : p ∈ pre ∨ p = (d, ob') ∨ p ∈ post := by simpa using hp
 have old : p ∈ pre ∨ p ∈ post → p.1 ≠ d → h'.get? p.1 = some p.2 ∧ p.1 ≠ env.locals ∧ h₀.get? p.1 = none := fun hm hne => by
  have hm' : p ∈ G ++ (D ++ C) := by
   rw [e1]
   rcases hm with h | h
   · exact List.mem_append_left _ h
   · exact List.mem_append_right _ (.tail _ h)
  have h1 := R.nw p hm'
  exact ⟨(hs.2 _ hne).trans h1.1, h1.2⟩
 rcases hp with h | rfl | h
 · exact old (.inl h) (n1 p h)
 · exact ⟨ho', hd.2⟩
 · exact old (.inr h) (n2 p h)
end
theorem put_ref (i : Nat) (o : O) (st : St) : put (.ref i) o st = ⟨setT st.t i o, st.n⟩ := by cases st; rfl
theorem list_typed {env : PySem.Env} {h₀ : Heap} {m : PySem.Str → Option Value} {C : Led} {ρ : Env} {st : St} {i : Nat} {l : List V} (hat : atT st.t i = some (.list l)) {s' : Shared} {G' D' : Led} {ad' : List Addr} {cv : Value} (R : Rel S ns env h₀ m G' D' C ad' ρ st s') (r : Rv S G' ad' (.ref i) cv) :
 s'.TypeIs cv "list" ∧ ∀ a, cv = .ref a → ∃ o, s'.heap.get? a = some o ∧ o.dict = none := by
 apply Rv.eref r; intro a ea
 obtain ⟨vs, k, x1, x2, x3⟩ := R.list ea hat
 exact ⟨⟨_, x2, rfl⟩, fun a' e => by cases e; exact ⟨_, x2, rfl⟩⟩
theorem SE.append {o e : PySem.Expr} {name : PySem.Str} {ap pos : Pos} {a b : DE} {pl : PySem.Env → Sem Bool} (hn : name = "append") (ha : SE S n sc ns o a) (hb : SE S n sc ns e b)
 (hp : ∀ env pos, (backTo pos (starEach [e] env)).any (·.1) = false) (hst : ∀ env, starEach [e] env = (false, eval e env) :: starEach [] env)
 (he : ∀ env, eval (.Call (.Attribute o name ap) [e] [] pos) env = (do
  let ov ← eval o env
  standAt ap.atName
  let (f, first) ← holding [ov] (getMethod ov name (pl env))
  callWith pos f first (backTo pos (starEach [e] env)) [])) :
 SE S n sc ns (.Call (.Attribute o name ap) [e] [] pos) (mAppend a b) := ⟨fun hA F R h q => by
 subst hn
 obtain ⟨v, s1, e1, h1⟩ := R_ok h
 obtain ⟨i, rfl, ⟨c, f, _, h2⟩ | ⟨l0, hat0, h2⟩ | ⟨l, _, h2⟩⟩ := onO_ok h1
 · cases h2
 · obtain ⟨y, s2, e2, h3⟩ := R_ok h2
   obtain ⟨i', hi, ⟨c, f, _, h4⟩ | ⟨l, hat, h4⟩ | ⟨l, _, h4⟩⟩ := onO_ok h3
   · cases h4
   · cases hi
     obtain ⟨hl, h5⟩ := bt_ok h4
     cases h5
     refine meth_call hA F R ha (SEs.cons hb SEs.nil hst) e1 (evs_one e2) PySem.F.plainAttrs_list PySem.F.slot_list_append PySem.F.type_list_append (fun R' r' => list_typed hat0 R' r') hp he fun s' G' D' ad' cv cs R1 g1 p1 r rs => ?_
     cases rs with
     | @cons _ cy _ _ r1 rs =>
      cases rs
      apply Rv.eref r; intro a ea
      obtain ⟨vs, k, x1, x2, x3⟩ := R1.list ea hat
      have hlen := Nat.le_of_ble_eq_true hl
      rw [len_eq] at hlen
      refine wpAny_list_append_plain (items := vs.toArray) ⟨k, x2⟩ (fun h' hpl hs' => ?_) (by rw [sizeLine_eq]; simp [x3.length]; exact Nat.le_trans hlen (by decide))
      obtain ⟨k', hk'⟩ := hpl
      have hk2 : h'.get? a = some (lstOf (vs ++ [cy]) k') := by rw [hk']; simp [lstOf]
      have R2 := R1.change (o := .list (l ++ [y])) s'.toks x1 ea hat hs' hk2 (.list _ _ _ _ (x3.append (.cons r1 .nil)))
      have e9 : put (.ref i) (.list (app l [y])) s2 = ⟨setT s2.t i (.list (l ++ [y])), s2.n⟩ := by rw [put_ref, app_eq]
      rw [e9] at q
      exact q _ _ _ _ _ R2 g1 p1 .none
   · cases h4
 · cases h2⟩
end
end
end Mine
end
section
namespace Mine
open PySem PySem.W PySem.Calls PyProof.Rows PySem.SeqAt
noncomputable section
section
variable {S : Stage} {n : Nat} {sc : Scope} {ns : List (Option PySem.Str)}
def MC (o : PySem.Expr) (name : PySem.Str) (ap : Pos) (es : List PySem.Expr) (pos : Pos) : Prop := ∃ pl : PySem.Env → Sem Bool, ∀ env, eval (.Call (.Attribute o name ap) es [] pos) env = (do
 let ov ← eval o env
 standAt ap.atName
 let (f, first) ← holding [ov] (getMethod ov name (pl env))
 callWith pos f first (backTo pos (starEach es env)) [])
theorem SE.pop {o e : PySem.Expr} {name : PySem.Str} {ap pos : Pos} {a : DE} (hn : name = "pop") (ha : SE S n sc ns o a) (hb : SE S n sc ns e (cst (.int 0)))
 (hp : ∀ env pos, (backTo pos (starEach [e] env)).any (·.1) = false) (hst : ∀ env, starEach [e] env = (false, eval e env) :: starEach [] env) (hm : MC o name ap [e] pos) :
 SE S n sc ns (.Call (.Attribute o name ap) [e] [] pos) (mPop0 a) := ⟨fun hA F R h q => by
 subst hn
 obtain ⟨pl, he⟩ := hm
 obtain ⟨v, s1, e1, h1⟩ := R_ok h
 obtain ⟨i, rfl, ⟨c, f, _, h2⟩ | ⟨l, hat, h2⟩ | ⟨l, _, h2⟩⟩ := onO_ok h1
 · cases h2
 · obtain ⟨hl, h3⟩ := bt_ok h2
   cases l with
   | nil => cases h3
   | cons x t =>
    cases h3
    refine meth_call hA F R ha (SEs.cons hb SEs.nil hst) e1 (evs_one rfl) PySem.F.plainAttrs_list PySem.F.slot_list_pop PySem.F.type_list_pop (fun R' r' => list_typed hat R' r') hp he fun s' G' D' ad' cv cs R1 g1 p1 r rs => ?_
    cases rs with
    | @cons _ cy _ _ r1 rs =>
     cases rs
     cases r1 with
     | int _ tk =>
      have rr := r
      cases r with
      | ref _ a ea =>
       obtain ⟨vs, k, x1, x2, x3⟩ := R1.list ea hat
       have hlen := Nat.le_of_ble_eq_true hl
       rw [len_eq] at hlen
       cases x3 with
       | @cons _ cx _ ct rx rt =>
        have h6 := rt.length
        have h7 : t.length + 1 ≤ 4096 := hlen
        have hsz : (cx :: ct).toArray.size ≤ sizeLine := by
         rw [sizeLine_eq]; simp [h6]; omega
        refine call_meets PySem.F.slot_list_pop (list_typed hat R1 rr).1 PySem.F.entry_list_pop (PySem.F.args_list_pop_2 _ _) (PySem.MeetsSeq.list_pop_at a (cx :: ct).toArray k 0 tk 0 cx (by decide) (by simp [seqIndex?]) (by simp) hsz) ⟨x2, ?_⟩
        have hk2 : (s'.heap.update a (Obj.mapSeq fun xs => xs.eraseIdxIfInBounds 0)).get? a = some (lstOf ct (k + 1)) := by
         rw [Heap.get?_update_self _ x2 (by rfl)]
         have : (cx :: ct).toArray.eraseIdxIfInBounds 0 = ct.toArray := by simp [Array.eraseIdxIfInBounds]
         show some (Obj.mapSeq (fun xs => xs.eraseIdxIfInBounds 0) { cls := .type "list", data := .seq (cx :: ct).toArray k }) = _
         simp only [Obj.mapSeq, this]
         simp [lstOf]
        have R2 := R1.change (o := .list t) s'.toks x1 ea hat (Heap.SameBut.update ..) hk2 (.list _ _ _ _ rt)
        rw [put_ref] at q
        exact q _ _ _ _ _ R2 g1 p1 rx
 · cases h2⟩
theorem dct_typed {env : PySem.Env} {h₀ : Heap} {m : PySem.Str → Option Value} {C : Led} {ρ : Env} {st : St} {l : List (V × V)} (F : Fix S sc ns env h₀) {s' : Shared} {G' D' : Led} {ad' : List Addr} {cv : Value} (R : Rel S ns env h₀ m G' D' C ad' ρ st s') (r : Rv S G' ad' (.dct l) cv) :
 s'.TypeIs cv "dict" ∧ ∀ a, cv = .ref a → ∃ o, s'.heap.get? a = some o ∧ o.dict = none := by
 cases r with
 | dct _ es a k o rd =>
  have ha := R.obs F o
  exact ⟨⟨_, ha, rfl⟩, fun a' e => by cases e; exact ⟨_, ha, rfl⟩⟩
theorem tup_typed {env : PySem.Env} {h₀ : Heap} {m : PySem.Str → Option Value} {C : Led} {ρ : Env} {st : St} {l : List V} (F : Fix S sc ns env h₀) {s' : Shared} {G' D' : Led} {ad' : List Addr} {cv : Value} (R : Rel S ns env h₀ m G' D' C ad' ρ st s') (r : Rv S G' ad' (.tup l) cv) :
 s'.TypeIs cv "tuple" ∧ ∀ a, cv = .ref a → ∃ o, s'.heap.get? a = some o ∧ o.dict = none := by
 cases r with
 | tup _ vs a k o rd =>
  have ha := R.obs F o
  exact ⟨⟨_, ha, rfl⟩, fun a' e => by cases e; exact ⟨_, ha, rfl⟩⟩
theorem SE.get2 (hK : ∀ es nn, S.K.lookup sysModules ≠ some (dictOf es nn)) {o e f : PySem.Expr} {name : PySem.Str} {ap pos : Pos} {a b c : DE} (hn : name = "get") (ha : SE S n sc ns o a) (hb : SE S n sc ns e b) (hc : SE S n sc ns f c)
 (hp : ∀ env pos, (backTo pos (starEach [e, f] env)).any (·.1) = false) (hst : ∀ env, starEach [e, f] env = (false, eval e env) :: starEach [f] env) (hst' : ∀ env, starEach [f] env = (false, eval f env) :: starEach [] env) (hm : MC o name ap [e, f] pos) :
 SE S n sc ns (.Call (.Attribute o name ap) [e, f] [] pos) (mGet2 a b c) := ⟨fun {A E Q env h₀ m G D C ad ρ st s v st'} hA F R h q => by
 subst hn
 obtain ⟨pl, he⟩ := hm
 obtain ⟨x, s1, e1, h1⟩ := R_ok h
 obtain ⟨y, s2, e2, h2⟩ := R_ok h1
 obtain ⟨z, s3, e3, h3⟩ := R_ok h2
 have hx : ∃ l, x = .dct l := by cases x <;> first | exact ⟨_, rfl⟩ | cases h3
 obtain ⟨l, rfl⟩ := hx
 have h3 : (OL.rec (.bad 30) (fun o => OL.rec (.ok z s3) (fun v => .ok v s3) o) (dfind y l) : Mine.R V) = .ok v st' := h3
 obtain ⟨g, hg, h4⟩ := ol_ok h3
 have hs3 : s3 = st' := by cases g with
  | no => cases h4; rfl
  | «at» _ => cases h4; rfl
 subst hs3
 refine meth_call hA F R ha (SEs.cons hb (SEs.cons hc SEs.nil hst') hst) e1 (evs_more e2 (evs_one e3)) PySem.F.plainAttrs_dict PySem.F.slot_dict_get PySem.F.type_dict_get (fun R' r' => dct_typed F R' r') hp he fun s' G' D' ad' cv cs R1 g1 p1 r rs => ?_
 cases rs with
 | @cons _ cy _ _ r1 rs =>
  cases rs with
  | @cons _ cz _ _ r2 rs =>
   cases rs
   have rr := r
   cases r with
   | dct _ es a nn o rd =>
    have hat := R1.obs F o
    refine dict_look r1 rd hg hat fun knd key ff k1 k2 k3 => ?_
    refine call_meetsIn PySem.F.slot_dict_get (dct_typed F R1 rr).1 PySem.F.entry_dict_get (PySem.F.args_dict_get_3 _ _ _) (meets_dict_get_default knd a k1 (Obs.sysNe hK R1 F o) cz) ⟨ff, k2, ?_⟩
    cases g with
    | no =>
     rw [show ff key = Option.none from k3]
     cases h4
     exact q _ _ _ _ _ (R1.toks _) g1 p1 r2
    | «at» w =>
     obtain ⟨cw, e5, r5⟩ := k3
     rw [e5]
     cases h4
     exact q _ _ _ _ _ (R1.toks _) g1 p1 r5⟩
theorem idx_at {s : Shared} {G : Led} {ad : List Addr} (hs : Stands S G s) {A : Around} {x : V} {cx : Value} (rx : Rv S G ad x cx) (hu : A.units + 80 < cLine) : ∀ {l : List V} {vs : List Value} {i j : Nat}, Rvs S G ad l vs → indexOf x l i = .at j → IdxAt A.in1 s cx j i vs := by
 intro l vs i j r
 revert i
 apply r.ind
 · intro i h; cases h
 · intro v c l cs r1 r2 ih i h
   have h : (B3.rec (indexOf x l (i + 1)) (.at i) .no (eqV 6 v x) : OL Nat) = .at j := h
   have eqa : ∀ r, eqV 6 v x = b3 r → EqAt A.in1 s c cx r := fun r hr => (eq_both hs 6 A.in1 v x c cx r hr r1 rx (by show A.units + 1 + 6 < _; omega)).2
   cases q : eqV 6 v x with
   | er => rw [q] at h; cases h
   | no => rw [q] at h; exact .inr ⟨eqa false q, ih h⟩
   | yes => rw [q] at h; cases h; exact .inl ⟨eqa true q, rfl⟩
theorem SE.index {o e : PySem.Expr} {name : PySem.Str} {ap pos : Pos} {a b : DE} (hn : name = "index") (ha : SE S n sc ns o a) (hb : SE S n sc ns e b)
 (hp : ∀ env pos, (backTo pos (starEach [e] env)).any (·.1) = false) (hst : ∀ env, starEach [e] env = (false, eval e env) :: starEach [] env) (hm : MC o name ap [e] pos) :
 SE S n sc ns (.Call (.Attribute o name ap) [e] [] pos) (mIndex a b) := ⟨fun {A E Q env h₀ m G D C ad ρ st s v st'} hA F R h q => by
 subst hn
 obtain ⟨pl, he⟩ := hm
 obtain ⟨x, s1, e1, h1⟩ := R_ok h
 obtain ⟨y, s2, e2, h2⟩ := R_ok h1
 have hx : ∃ l, x = .tup l := by cases x <;> first | exact ⟨_, rfl⟩ | cases h2
 obtain ⟨l, rfl⟩ := hx
 have h2 : (OL.rec (.bad 32) (fun n => .ok (.int (.ofNat n)) s2) (indexOf y l 0) : Mine.R V) = .ok v st' := h2
 obtain ⟨j, hj, h3⟩ := ol_ok h2
 cases h3
 refine meth_call hA F R ha (SEs.cons hb SEs.nil hst) e1 (evs_one e2) PySem.F.plainAttrs_tuple PySem.F.slot_tuple_index PySem.F.type_tuple_index (fun R' r' => tup_typed F R' r') hp he fun s' G' D' ad' cv cs R1 g1 p1 r rs => ?_
 cases rs with
 | @cons _ cy _ _ r1 rs =>
  cases rs
  have rr := r
  cases r with
  | tup _ vs a nn o rd =>
   have hat := R1.obs F o
   have hu : A.units + 80 < cLine := by have := hA.un; omega
   refine call_meets PySem.F.slot_tuple_index (tup_typed F R1 rr).1 PySem.F.entry_tuple_index (PySem.F.args_tuple_index_2 _ _) (tuple_indexAt a vs.toArray nn cy j) ⟨hat, ?_, q _ _ _ _ _ (R1.toks _) g1 p1 (.int _ _)⟩
   show IdxAt A.in1 s' cy j 0 vs.toArray.toList
   exact idx_at (R1.stands F) r1 hu rd hj⟩
end
end
end Mine
end
section
namespace Mine
open PySem PySem.W PySem.Calls PyProof.Rows PySem.SeqAt
noncomputable section
section
variable {S : Stage} {n : Nat} {sc : Scope} {ns : List (Option PySem.Str)}
theorem vals_rel_int {G : Led} {ad : List Addr} : ∀ {l : List (V × V)} {kvs : List (Int × Value)}, All2 (IntP S G ad) l kvs → ∀ (i : Nat) (x : V) (k : Int) (c : Value), (vals l)[i]? = some x → kvs[i]? = some (k, c) → Rv S G ad x c := fun z => by
 induction z with
 | nil => intro i x k c h _; have h : ([] : List V)[i]? = some x := h; simp at h
 | @cons p q l kvs h t ih =>
  intro i x k c h1 h2
  obtain ⟨a, v⟩ := p
  have h1 : (v :: vals l)[i]? = some x := h1
  cases i with
  | zero =>
   simp at h1 h2
   subst h1; subst h2
   exact h.2
  | succ i => exact ih i x k c (by simpa using h1) (by simpa using h2)
theorem vals_rel_str {G : Led} {ad : List Addr} : ∀ {l : List (V × V)} {kvs : List (PySem.Str × Value)}, All2 (StrP S G ad) l kvs → ∀ (i : Nat) (x : V) (k : PySem.Str) (c : Value), (vals l)[i]? = some x → kvs[i]? = some (k, c) → Rv S G ad x c := fun z => by
 induction z with
 | nil => intro i x k c h _; have h : ([] : List V)[i]? = some x := h; simp at h
 | @cons p q l kvs h t ih =>
  intro i x k c h1 h2
  obtain ⟨a, v⟩ := p
  have h1 : (v :: vals l)[i]? = some x := h1
  cases i with
  | zero =>
   simp at h1 h2
   subst h1; subst h2
   exact h.2
  | succ i => exact ih i x k c (by simpa using h1) (by simpa using h2)
theorem wk_vals {I a : Addr} {l : List (V × V)} {es : List DictEntry} {nn : Nat} {G : Led} {ad : List Addr} {s : Shared} (o : Obs S G a (dictOf es nn)) (rd : Rds S G ad l es) (hu : uniq l = true) (hne : a ≠ I) (ha : s.heap.get? a = some (dictOf es nn)) :
 ∃ K, ∃ _ : DecidableEq K, ∃ knd : KeyKind S.prog S.w K, ∃ kvs ep, s.heap.DictOf knd a kvs ∧ s.heap.DictAt knd a kvs ep ∧ ∃ T, Wk S I .no (vals l) G ad T ∧ T 0 { cls := .type "dict_valueiterator", data := .fields #[.ref a, .int 0 0, .int kvs.length 0, .int ep 0] } := by
 rcases uniq_kind hu with hk | hk
 · obtain ⟨kvs, k1, k2⟩ := dict_int_of rd hk hu ha
   obtain ⟨ep, hat⟩ := k1.dictAt
   have hl : kvs.length = (vals l).length := by rw [vals_eq, List.length_map, k2.length]
   refine ⟨_, _, _, kvs, ep, k1, hat, _, Wk.of_walks (fp := [I, a]) (P := fun i v => ∃ k, kvs[i]? = some (k, v)) (Sn := fun i h => h.IsValIter I a i kvs.length ep ∧ h.DictAt (PySem.intKind S.prog S.w) a kvs ep) (fun A hA => hl ▸ Walks.dictValues hA I a hne kvs ep)
    (fun b hb hbI => ?_) (fun i h hs => ?_) (fun i v x hv hx => ?_) (fun i A s Q E hs q => wpAny_pyIter_valiter hs.1 q), ⟨"dict_valueiterator", rfl, by decide, by decide, by decide, by decide⟩, fun h hI hb => ⟨⟨_, hI, rfl, rfl⟩, ?_⟩⟩
   · simp at hb
     rcases hb with rfl | rfl
     · exact absurd rfl hbI
     · exact ⟨_, o⟩
   · obtain ⟨⟨o', h1, h2, h3⟩, -⟩ := hs
     exact ⟨o', h1, "dict_valueiterator", h2, by decide, by decide, by decide, by decide⟩
   · obtain ⟨k, h1⟩ := hv
     exact vals_rel_int k2 i x k v hx h1
   · exact hat.at' fun o' e => by rw [ha] at e; cases e; exact hb a (by simp) hne _ o
 · obtain ⟨kvs, k1, k2⟩ := dict_str_of rd hk hu ha
   obtain ⟨ep, hat⟩ := k1.dictAt
   have hl : kvs.length = (vals l).length := by rw [vals_eq, List.length_map, k2.length]
   refine ⟨_, _, _, kvs, ep, k1, hat, _, Wk.of_walks (fp := [I, a]) (P := fun i v => ∃ k, kvs[i]? = some (k, v)) (Sn := fun i h => h.IsValIter I a i kvs.length ep ∧ h.DictAt (PySem.strKind S.prog S.w) a kvs ep) (fun A hA => hl ▸ Walks.dictValues hA I a hne kvs ep)
    (fun b hb hbI => ?_) (fun i h hs => ?_) (fun i v x hv hx => ?_) (fun i A s Q E hs q => wpAny_pyIter_valiter hs.1 q), ⟨"dict_valueiterator", rfl, by decide, by decide, by decide, by decide⟩, fun h hI hb => ⟨⟨_, hI, rfl, rfl⟩, ?_⟩⟩
   · simp at hb
     rcases hb with rfl | rfl
     · exact absurd rfl hbI
     · exact ⟨_, o⟩
   · obtain ⟨⟨o', h1, h2, h3⟩, -⟩ := hs
     exact ⟨o', h1, "dict_valueiterator", h2, by decide, by decide, by decide, by decide⟩
   · obtain ⟨k, h1⟩ := hv
     exact vals_rel_str k2 i x k v hx h1
   · exact hat.at' fun o' e => by rw [ha] at e; cases e; exact hb a (by simp) hne _ o
theorem SI.vals (hK : ∀ es nn, S.K.lookup sysModules ≠ some (dictOf es nn)) {o : PySem.Expr} {name : PySem.Str} {ap pos : Pos} {a : DE} (hn : name = "values") (ha : SE S n sc ns o a)
 (hp : ∀ env pos, (backTo pos (starEach [] env)).any (·.1) = false) (hm : MC o name ap [] pos) :
 SI S n sc ns (.Call (.Attribute o name ap) [] [] pos) (itVals a) := ⟨fun {A E Q env h₀ m G D C ad ρ st s h l st'} hA F R e q => by
 subst hn
 obtain ⟨pl, he⟩ := hm
 obtain ⟨x, s1, e1, h1⟩ := R_ok e
 have hx : ∃ l, x = .dct l := by cases x <;> first | exact ⟨_, rfl⟩ | cases h1
 obtain ⟨d, rfl⟩ := hx
 obtain ⟨hu, h2⟩ := bt_ok h1
 obtain ⟨rfl, rfl, rfl⟩ := It_inj h2
 refine meth_call hA F R ha SEs.nil e1 rfl PySem.F.plainAttrs_dict PySem.F.slot_dict_values PySem.F.type_dict_values (fun R' r' => dct_typed F R' r') hp he fun s' G' D' ad' cv cs R1 g1 p1 r rs => ?_
 cases rs
 have rr := r
 cases r with
 | dct _ es a nn o rd =>
  have hat := R1.obs F o
  have hds := Obs.sysNe hK R1 F o
  have R2 := R1.more s'.toks (R1.fr.push { cls := .type "dict_values", data := .fields #[.ref a] }) (News.push R1.fr R1.nw _) R1.lt
  have hat2 := R2.obs F (o.mono (List.subset_cons_self _ _))
  obtain ⟨K, dk, knd, kvs, ep, k1, k2, T, W, hT⟩ := wk_vals (I := (s'.heap.push { cls := .type "dict_values", data := .fields #[.ref a] }).objs.size) (o.mono (List.subset_cons_self _ _)) (rd.mono (List.subset_cons_self _ _) (List.prefix_refl _)) hu (Nat.ne_of_lt (Heap.lt_size hat2)) hat2
  have k1' : ∃ kvs, s'.heap.DictOf knd a kvs := by
   obtain ⟨o', ho', hr⟩ := Heap.dictOf_iff.mp k1
   have : o' = dictOf es nn := by rw [hat2] at ho'; cases ho'; rfl
   subst this
   exact ⟨kvs, Heap.dictOf_iff.mpr ⟨_, hat, hr⟩⟩
  refine call_meetsIn PySem.F.slot_dict_values (dct_typed F R1 rr).1 PySem.F.entry_dict_values (PySem.F.args_dict_values_1 _) (meets_dict_values knd a hds) ⟨k1', ?_⟩
  refine wpAny_pyIter_values ⟨_, Heap.get?_push_size _ rfl, rfl, rfl⟩ k2 ?_
  exact iter_new R2 rfl W hT fun s2 G2 D2 ad2 I o T R3 g2 p2 => q s2 G2 D2 ad2 I o T R3 (List.Subset.trans g1 (List.Subset.trans (List.subset_cons_self _ _) g2)) (p1.trans p2)⟩
end
end
end Mine
end
section
namespace Mine.KBj
open PySem PySem.W PySem.Calls PyProof.Rows
open PySem Builtin PyProof
section
variable {b c : Array UInt8} {t u : Tok}
theorem buffer_full {id : String} {full : Bool} : Bytes.buffer? id (.bytes b t) full = pure (some b) := by
 unfold Bytes.buffer?
 rw [KBy.special_eq KBy.look_buffer, KBy.own_buffer, KBy.own_release]
 kernel_rfl
theorem take_eq {id : String} : Bytes.takeBuffer? id (.bytes b t) 0 = pure (some (b, none)) := by
 unfold Bytes.takeBuffer?
 rw [KBy.special_eq KBy.look_buffer, KBy.own_buffer, buffer_full]
 kernel_rfl
theorem takeQ_eq {id : String} : Bytes.takeBufferQuiet? id (.bytes b t) 0 = pure (some (b, none)) := by
 unfold Bytes.takeBufferQuiet?
 rw [take_eq]
 rfl
theorem joinItems_list {prog : Program} {w : World} {A : Around} {E : Value → Shared → Prop} {Q : Value → Shared → Prop} {s : Shared} {a : Addr} {items : Array Value} {n : Nat} (ha : s.heap.get? a = some { cls := .type "list", data := .seq items n }) (h : Q (.ref a) s) : wpAny (model prog w) A (Bytes.joinItems (.ref a)) Q E s := by
 unfold Bytes.joinItems
 wp_walk using wpAny_load ha
 exact h
theorem seq_list {prog : Program} {w : World} {A : Around} {E : Value → Shared → Prop} {Q : Option (Array Value) → Shared → Prop} {s : Shared} {a : Addr} {items : Array Value} {n : Nat} (ha : s.heap.get? a = some { cls := .type "list", data := .seq items n }) (h : Q (some items) s) : wpAny (model prog w) A (seqItems? (.ref a)) Q E s :=
 wpAny_seqItems ha rfl h
theorem wp_range {M : Model} {A : Around} {E : Value → Shared → Prop} {s : Shared} {β : Type} {n : Nat} {init : β} {f : Nat → β → Sem (ForInStep β)} {Q : β → Shared → Prop} (h : wpAny M A (forIn (List.range' 0 n) init f) Q E s) : wpAny M A (forIn [0:n] init f) Q E s := by
 simp only [Std.Legacy.Range.forIn_eq_forIn_range', Std.Legacy.Range.size]
 simpa using h
set_option maxHeartbeats 2000000 in
theorem join0 (t : Tok) (a : Addr) (n : Nat) : Meets (Builtin.«bytes.join» ⟨[.bytes #[] t, .ref a], []⟩)
 (fun zz R s => s.heap.get? a = some { cls := .type "list", data := .seq #[] n } ∧ R (.ok (.ret (.bytes #[] s.toks))) { s with toks := s.toks + 1 }) :=
 .of_wp fun prog w A R s h => by
  obtain ⟨hp, g, d, tk, os⟩ := s; obtain ⟨ha, h⟩ := h
  have e6 : mkBytes #[] = (do return .bytes #[] (← fresh)) := if_neg (by decide)
  delta Builtin.«bytes.join» Bytes.joinM
  refine wpAny_bind (wpAny_of_eq (a := (Value.bytes #[] t, Value.ref a)) rfl ?_)
  refine wpAny_bind (joinItems_list ha ?_)
  refine wpAny_bind (seq_list ha ?_)
  refine wpAny_bind (wp_range (n := 0) ?_)
  refine wpAny_pure ?_
  show wpAny _ _ (Bytes.payload (.bytes #[] t) >>= _) _ _ _
  refine wpAny_bind (wpAny_of_eq (a := (#[] : Array UInt8)) rfl ?_)
  show wpAny _ _ (mkBytes #[] >>= _) _ _ _
  rw [e6]
  wp_walk
  exact ⟨_, rfl, h⟩
set_option maxHeartbeats 2000000 in
theorem join1 (t : Tok) (a : Addr) (n : Nat) (x : Array UInt8) (u : Tok) : Meets (Builtin.«bytes.join» ⟨[.bytes #[] t, .ref a], []⟩)
 (fun zz R s => s.heap.get? a = some { cls := .type "list", data := .seq #[.bytes x u] n } ∧ R (.ok (.ret (.bytes x u))) s) :=
 .of_wp fun prog w A R s h => by
  obtain ⟨hp, g, d, tk, os⟩ := s; obtain ⟨ha, h⟩ := h
  delta Builtin.«bytes.join» Bytes.joinM
  refine wpAny_bind (wpAny_of_eq (a := (Value.bytes #[] t, Value.ref a)) rfl ?_)
  refine wpAny_bind (joinItems_list ha ?_)
  refine wpAny_bind (seq_list ha ?_)
  dsimp only
  show wpAny _ _ (typeOf (.bytes x u) >>= _) _ _ _
  refine wpAny_bind (wpAny_of_eq (a := Value.type "bytes") rfl ?_)
  show wpAny _ _ (if (Value.type "bytes" == Value.type "bytes") = true then _ else _) _ _ _
  rw [if_pos (by decide)]
  refine wpAny_bind (wpAny_rule ?_)
  exact wpAny_bind (wpAny_pure (wpAny_pure ⟨_, rfl, h⟩))
set_option maxHeartbeats 4000000 in
theorem join2 (t : Tok) (a : Addr) (n : Nat) (x y : Array UInt8) (u v : Tok) (hsz : x.size + y.size ≤ 4096) : Meets (Builtin.«bytes.join» ⟨[.bytes #[] t, .ref a], []⟩)
 (fun zz R s => s.heap.get? a = some { cls := .type "list", data := .seq #[.bytes x u, .bytes y v] n } ∧ R (.ok (.ret (.bytes (x ++ y) s.toks))) { s with toks := s.toks + 1 }) :=
 .of_wp fun prog w A R s h => by
  obtain ⟨hp, g, d, tk, os⟩ := s; obtain ⟨ha, h⟩ := h
  have e6 : mkBytes (x ++ y) = (do return .bytes (x ++ y) (← fresh)) := if_neg (by rw [sizeLine_eq]; simp; omega)
  have e7 : Bytes.tooLong (x.size + y.size) = false := by show decide _ = false; rw [decide_eq_false_iff_not, sizeLine_eq]; omega
  have hon1 : (Value.bytes x u).onHeap = false := rfl
  delta Builtin.«bytes.join» Bytes.joinM
  refine wpAny_bind (wpAny_of_eq (a := (Value.bytes #[] t, Value.ref a)) rfl ?_)
  refine wpAny_bind (joinItems_list ha ?_)
  refine wpAny_bind (seq_list ha ?_)
  refine wpAny_bind (wp_range (n := 2) ?_)
  show wpAny _ _ (forIn [0, 1] _ _) _ _ _
  rw [List.forIn_cons]
  refine wpAny_bind (wpAny_bind (seq_list ha ?_))
  refine wpAny_bind (wpAny_holding (wpAny_of_eq (a := some (x, none)) takeQ_eq ?_))
  refine wpAny_bind (seq_list ha ?_)
  refine wpAny_pure ?_
  show wpAny _ _ (forIn [1] _ _) _ _ _
  rw [List.forIn_cons]
  refine wpAny_bind (wpAny_bind (seq_list ha ?_))
  refine wpAny_bind (wpAny_holding (wpAny_of_eq (a := some (y, none)) takeQ_eq ?_))
  refine wpAny_bind (seq_list ha ?_)
  refine wpAny_pure ?_
  show wpAny _ _ (forIn [] _ _) _ _ _
  rw [List.forIn_nil]
  refine wpAny_pure ?_
  dsimp only
  refine wpAny_bind (wpAny_of_eq (a := (#[] : Array UInt8)) rfl ?_)
  rw [if_neg (by
   intro h9
   have : Bytes.tooLong (x.size + y.size) = true := by rw [← h9]; congr 1; simp
   rw [e7] at this; cases this)]
  have e9 : Bytes.joined #[] ((#[].push x).push y).toList = x ++ y := by simp [Bytes.joined]
  rw [e9]
  show wpAny _ _ (mkBytes (x ++ y) >>= _) _ _ _
  rw [e6]
  wp_walk
  exact ⟨_, rfl, h⟩
end
end Mine.KBj
end
section
namespace Mine.FBj
open PySem PySem.W PySem.Calls PyProof.Rows
open PySem
theorem slot_bytes_join : Slot "bytes" "join" "bytes.join" :=
 .of (owner := "bytes") (n := "join") (by rw [typeLookup_type, builtinLookup_eq_fast]; kernel_rfl) (by decide +kernel) (by decide +kernel) (by decide +kernel)
  (by first | exact .inl (by decide +kernel) | exact .inr (by decide +kernel)) (by rw [isSubtype_type]; kernel_rfl)
theorem type_bytes_join : typeOf (.builtin "bytes.join") = pure (.type "method_descriptor") := by show builtinType _ = _; rw [builtinType_eq_fast]; kernel_rfl
theorem entry_bytes_join : entryFor table "bytes.join" = some Builtin.«bytes.join» := entryFor_of_tree (by kernel_rfl)
theorem args_bytes_join_2 (a b : Value) : argsOk "bytes.join" ⟨[a, b], []⟩ := by
 unfold argsOk; rw [signature?_of (id := "bytes.join") (n := ['n', 'i', 'o', 'j']) (o := ['s', 'e', 't', 'y', 'b']) (by kernel_rfl) FB.owner_bytes]; kernel_rfl
def Enc (x : Str) (b : Array UInt8) : Prop := ∀ t u, Builtin.«str.encode» ⟨[.str x t, .str "ascii" u], []⟩ = (do ret (← mkBytes b))
theorem enc_near : Enc "near" #[110, 101, 97, 114] := fun t u => by kernel_rfl
theorem enc_far : Enc "far" #[102, 97, 114] := fun t u => by kernel_rfl
theorem call_enc {prog : Program} {w : World} {A : Around} {E : Value → Shared → Prop} {s : Shared} {Q : Value → Shared → Prop} {x : Str} {b : Array UInt8} (h : Enc x b) (hl : b.size ≤ 4096) {t u : Tok} (q : Q (.bytes b s.toks) { s with toks := s.toks + 1 }) :
 wpAny (model prog w) A (call (.builtin "str.encode") [.str x t, .str "ascii" u]) Q E s := by
 refine wpAny_call_entry PySem.F.slot_str_encode (typeIs_str _ _ _) PySem.F.entry_str_encode ?_ (PySem.F.args_str_encode_2 _ _)
 rw [h t u]
 have e6 : mkBytes b = (do return .bytes b (← fresh)) := if_neg (by rw [sizeLine_eq]; omega)
 rw [e6]
 wp_walk
 exact ⟨_, rfl, q⟩
end Mine.FBj
end
section
namespace Mine
open PySem PySem.W PySem.Calls PyProof.Rows PySem.SeqAt
noncomputable section
section
variable {S : Stage} {n : Nat} {sc : Scope} {ns : List (Option PySem.Str)}
theorem str_typed {env : PySem.Env} {h₀ : Heap} {m : PySem.Str → Option Value} {C : Led} {ρ : Env} {st : St} {k : Nat} {s' : Shared} {G' D' : Led} {ad' : List Addr} {cv : Value} (_R : Rel S ns env h₀ m G' D' C ad' ρ st s') (r : Rv S G' ad' (.str k) cv) :
 s'.TypeIs cv "str" ∧ ∀ a, cv = .ref a → ∃ o, s'.heap.get? a = some o ∧ o.dict = none := by
 cases r with
 | str _ t => exact ⟨typeIs_str _ _ _, fun zz e => nomatch e⟩
theorem bytes_typed {env : PySem.Env} {h₀ : Heap} {m : PySem.Str → Option Value} {C : Led} {ρ : Env} {st : St} {l : List Nat} {s' : Shared} {G' D' : Led} {ad' : List Addr} {cv : Value} (_R : Rel S ns env h₀ m G' D' C ad' ρ st s') (r : Rv S G' ad' (.bytes l) cv) :
 s'.TypeIs cv "bytes" ∧ ∀ a, cv = .ref a → ∃ o, s'.heap.get? a = some o ∧ o.dict = none := by
 cases r with
 | bytes _ b t e => exact ⟨typeIs_bytes _ _ _, fun zz e => nomatch e⟩
theorem mStr_ok {f : Nat → OL V} {a : DE} {ρ : Env} {st st' : St} {v : V} (h : mStr f a ρ st = .ok v st') : ∃ k, a ρ st = .ok (.str k) st' ∧ f k = .at v := by
 obtain ⟨x, s1, e1, h1⟩ := R_ok h
 have hx : ∃ k, x = .str k := by cases x <;> first | exact ⟨_, rfl⟩ | cases h1
 obtain ⟨k, rfl⟩ := hx
 obtain ⟨h2, rfl⟩ := rO_ok (o := f k) h1
 exact ⟨k, e1, h2⟩
theorem SE.isascii {o : PySem.Expr} {name : PySem.Str} {ap pos : Pos} {f : Nat → OL V} {a : DE} (hn : name = "isascii") (hf : ∀ k v, f k = .at v → v = .bool (Txt.isascii (S.nm k))) (ha : SE S n sc ns o a)
 (hp : ∀ env pos, (backTo pos (starEach [] env)).any (·.1) = false) (hm : MC o name ap [] pos) :
 SE S n sc ns (.Call (.Attribute o name ap) [] [] pos) (mStr f a) := ⟨fun hA F R h q => by
 subst hn
 obtain ⟨pl, he⟩ := hm
 obtain ⟨k, e1, h2⟩ := mStr_ok h
 have hv := hf _ _ h2
 subst hv
 refine meth_call hA F R ha SEs.nil e1 rfl PySem.F.plainAttrs_str PySem.F.slot_str_isascii PySem.F.type_str_isascii (fun R' r' => str_typed R' r') hp he fun s' G' D' ad' cv cs R1 g1 p1 r rs => ?_
 cases rs
 apply Rv.estr r; intro t
 exact PySem.SC.isascii (q _ _ _ _ _ R1 g1 p1 (.bool _))⟩
theorem SE.encode {o e : PySem.Expr} {name : PySem.Str} {ap pos : Pos} {f : Nat → OL V} {a : DE} {j : Nat} (hn : name = "encode") (hf : ∀ k v, f k = .at v → ∃ l b, v = .bytes l ∧ FBj.Enc (S.nm k) b ∧ b.size ≤ 4096 ∧ b.toList.map UInt8.toNat = l) (ha : SE S n sc ns o a) (hb : SE S n sc ns e (cst (.str j))) (hj : S.nm j = "ascii")
 (hp : ∀ env pos, (backTo pos (starEach [e] env)).any (·.1) = false) (hst : ∀ env, starEach [e] env = (false, eval e env) :: starEach [] env) (hm : MC o name ap [e] pos) :
 SE S n sc ns (.Call (.Attribute o name ap) [e] [] pos) (mStr f a) := ⟨fun hA F R h q => by
 subst hn
 obtain ⟨pl, he⟩ := hm
 obtain ⟨k, e1, h2⟩ := mStr_ok h
 obtain ⟨l, b, rfl, hE, hl, hb2⟩ := hf _ _ h2
 refine meth_call hA F R ha (SEs.cons hb SEs.nil hst) e1 (evs_one rfl) PySem.F.plainAttrs_str PySem.F.slot_str_encode PySem.F.type_str_encode (fun R' r' => str_typed R' r') hp he fun s' G' D' ad' cv cs R1 g1 p1 r rs => ?_
 cases rs with
 | @cons _ cy _ _ r1 rs =>
  cases rs
  apply Rv.estr r; intro t
  apply Rv.estr r1; intro u
  rw [hj]
  exact FBj.call_enc hE hl (q _ _ _ _ _ (R1.toks _) g1 p1 (.bytes _ _ _ hb2))⟩
theorem SE.replace {o e g : PySem.Expr} {name : PySem.Str} {ap pos : Pos} {f : Nat → OL V} {a : DE} {i j : Nat} (hn : name = "replace") (hf : ∀ k v, f k = .at v → v = .str k ∧ (Builtin.Str.occurrences (S.nm k) (S.nm i) 0 (S.nm k).length ((S.nm k).length + 1)).isEmpty = true) (ha : SE S n sc ns o a) (hb : SE S n sc ns e (cst (.str i))) (hc : SE S n sc ns g (cst (.str j)))
 (hp : ∀ env pos, (backTo pos (starEach [e, g] env)).any (·.1) = false) (hst : ∀ env, starEach [e, g] env = (false, eval e env) :: starEach [g] env) (hst' : ∀ env, starEach [g] env = (false, eval g env) :: starEach [] env) (hm : MC o name ap [e, g] pos) :
 SE S n sc ns (.Call (.Attribute o name ap) [e, g] [] pos) (mStr f a) := ⟨fun hA F R h q => by
 subst hn
 obtain ⟨pl, he⟩ := hm
 obtain ⟨k, e1, h2⟩ := mStr_ok h
 obtain ⟨rfl, ho⟩ := hf _ _ h2
 refine meth_call hA F R ha (SEs.cons hb (SEs.cons hc SEs.nil hst') hst) e1 (evs_more rfl (evs_one rfl)) PySem.F.plainAttrs_str PySem.F.slot_str_replace PySem.F.type_str_replace (fun R' r' => str_typed R' r') hp he fun s' G' D' ad' cv cs R1 g1 p1 r rs => ?_
 cases rs with
 | @cons _ cy _ _ r1 rs =>
  cases rs with
  | @cons _ cz _ _ r2 rs =>
   cases rs
   apply Rv.estr r; intro t
   apply Rv.estr r1; intro u
   apply Rv.estr r2; intro v
   have hc : ((Builtin.Str.occurrences (S.nm k) (S.nm i) 0 (S.nm k).length ((S.nm k).length + 1)).isEmpty || ((S.nm i).length == 0 && (S.nm j).length == 0)) = true := by rw [ho]; rfl
   refine call_gives PySem.F.slot_str_replace (typeIs_str _ _ _) PySem.F.entry_str_replace (PySem.F.args_str_replace_3 _ _ _) (PySem.gives_str_replace (S.nm k) (S.nm i) (S.nm j) t u v fun h => by rw [hc] at h; cases h) ?_
   rw [if_pos hc]
   exact q _ _ _ _ _ R1 g1 p1 (.str _ _)⟩
theorem ST.nul {r : PySem.Expr} {x : PySem.Str} {k : Nat} {p pos : Pos} {f : Nat → OL V} {a : DE} (hf : ∀ k v, f k = .at v → v = .bool (!(Builtin.Str.occurrences (S.nm k) x 0 (S.nm k).length 1).isEmpty)) (ha : SE S n sc ns r a) (hm : behindInMarks .In r = false := by with_unfolding_all rfl) :
 ST S n sc ns (.Compare (.Constant (.str x) k p) [.In] [r] pos) (tE (mStr f a)) := ⟨fun hA F R h q => by
 obtain ⟨v, s1, e1, h1⟩ := R_ok h
 obtain ⟨j, e2, h2⟩ := mStr_ok e1
 have hv := hf _ _ h2
 subst hv
 cases h1
 refine wpAny_isTrue_Compare1 (Calls.Constant_str ?_) hm
 refine ha.go hA F (R.toks _) e2 fun s'' G'' D'' ad'' cy R2 g2 p2 ry => ?_
 apply Rv.estr ry; intro t
 exact in_str (wpAny_truthy_bool (q _ _ _ _ R2 g2 p2))⟩
theorem joinB_ok : ∀ {l : List V} {r : List Nat}, joinB l = .at r → ∃ bs : List (List Nat), l = bs.map .bytes ∧ r = bs.flatten
 | [], r, h => by cases h; exact ⟨[], rfl, rfl⟩
 | v :: l, r, h => by
  cases v with
  | bytes b =>
   have h : (OL.rec .no (fun r => .at (app b r)) (joinB l) : OL (List Nat)) = .at r := h
   cases q : joinB l with
   | no => rw [q] at h; cases h
   | «at» r' =>
    rw [q] at h
    cases h
    obtain ⟨bs, rfl, rfl⟩ := joinB_ok q
    exact ⟨b :: bs, rfl, by rw [app_eq]; rfl⟩
  | _ => cases h
theorem bytes_rvs {G : Led} {ad : List Addr} {bs : List (List Nat)} {vs : List Value} (h : Rvs S G ad (bs.map V.bytes) vs) (hl : bs.length ≤ 2) :
 (bs = [] ∧ vs = []) ∨ (∃ (y : List Nat) (b : Array UInt8) (t : Nat), bs = [y] ∧ vs = [.bytes b t] ∧ b.toList.map UInt8.toNat = y) ∨
  ∃ (y z : List Nat) (b : Array UInt8) (t : Nat) (c : Array UInt8) (u : Nat), bs = [y, z] ∧ vs = [.bytes b t, .bytes c u] ∧ b.toList.map UInt8.toNat = y ∧ c.toList.map UInt8.toNat = z := by
 cases bs with
 | nil => exact .inl ⟨rfl, Rvs.enil (P := fun v => v = []) h rfl⟩
 | cons y bs =>
  apply Rvs.econs (show Rvs S G ad (V.bytes y :: bs.map V.bytes) vs from h); intro c r h1 h2
  apply Rv.ebytes h1; intro b t hb
  cases bs with
  | nil => exact .inr (.inl ⟨y, b, t, rfl, by rw [Rvs.enil (P := fun v => v = []) h2 rfl], hb⟩)
  | cons z bs =>
   apply Rvs.econs (show Rvs S G ad (V.bytes z :: bs.map V.bytes) r from h2); intro c r h3 h4
   apply Rv.ebytes h3; intro d u hd
   cases bs with
   | nil => exact .inr (.inr ⟨y, z, b, t, d, u, rfl, by rw [Rvs.enil (P := fun v => v = []) h4 rfl], hb, hd⟩)
   | cons _ _ => simp at hl
theorem SE.join {o e : PySem.Expr} {name : PySem.Str} {ap pos : Pos} {a : DE} (hn : name = "join") (ho : SE S n sc ns o (cst (.bytes []))) (ha : SE S n sc ns e a)
 (hp : ∀ env pos, (backTo pos (starEach [e] env)).any (·.1) = false) (hst : ∀ env, starEach [e] env = (false, eval e env) :: starEach [] env) (hm : MC o name ap [e] pos) :
 SE S n sc ns (.Call (.Attribute o name ap) [e] [] pos) (mJoin a) := ⟨fun hA F R h q => by
 subst hn
 obtain ⟨pl, he⟩ := hm
 obtain ⟨x, s1, e1, h1⟩ := R_ok h
 have hx : ∃ l, x = .lst l := by cases x <;> first | exact ⟨_, rfl⟩ | cases h1
 obtain ⟨l, rfl⟩ := hx
 obtain ⟨hl, h2⟩ := bt_ok h1
 obtain ⟨r, hr, h3⟩ := ol_ok (o := joinB l) h2
 obtain ⟨hc, h4⟩ := bt_ok h3
 cases h4
 have hl2 : l.length ≤ 2 := by have := Nat.le_of_ble_eq_true hl; rwa [len_eq] at this
 have hr2 : r.length ≤ 4096 := by have := Nat.le_of_ble_eq_true hc; rwa [len_eq] at this
 obtain ⟨bs, rfl, rfl⟩ := joinB_ok hr
 refine meth_call hA F R ho (SEs.cons ha SEs.nil hst) rfl (evs_one e1) FB.plainAttrs_bytes FBj.slot_bytes_join FBj.type_bytes_join (fun R' r' => bytes_typed R' r') hp he fun s' G' D' ad' cv cs R1 g1 p1 r rs => ?_
 cases rs with
 | @cons _ cy _ _ r1 rs =>
  cases rs
  apply Rv.ebytes r; intro b0 t0 eb
  have hb0 : b0 = #[] := by
   have : b0.toList = [] := by simpa using eb
   simpa using this
  subst hb0
  apply Rv.elst r1; intro vs a k ob rv
  have hat := R1.obs F ob
  rcases bytes_rvs rv (by simpa using hl2) with ⟨rfl, rfl⟩ | ⟨y, b, t, rfl, rfl, hb⟩ | ⟨y, z, b, t, c, u, rfl, rfl, hb, hc⟩
  · exact call_meets FBj.slot_bytes_join (typeIs_bytes _ _ _) FBj.entry_bytes_join (FBj.args_bytes_join_2 _ _) (KBj.join0 t0 a k) ⟨hat, q _ _ _ _ _ (R1.toks _) g1 p1 (.bytes _ _ _ rfl)⟩
  · exact call_meets FBj.slot_bytes_join (typeIs_bytes _ _ _) FBj.entry_bytes_join (FBj.args_bytes_join_2 _ _) (KBj.join1 t0 a k b t) ⟨hat, q _ _ _ _ _ R1 g1 p1 (.bytes _ _ _ (by rw [hb]; simp))⟩
  · have hlen : b.size + c.size ≤ 4096 := by
     have h5 : b.size = y.length := by rw [← hb]; simp
     have h6 : c.size = z.length := by rw [← hc]; simp
     have h7 : [y, z].flatten.length = y.length + z.length := by simp
     omega
    exact call_meets FBj.slot_bytes_join (typeIs_bytes _ _ _) FBj.entry_bytes_join (FBj.args_bytes_join_2 _ _) (KBj.join2 t0 a k b c t u hlen) ⟨hat, q _ _ _ _ _ (R1.toks _) g1 p1 (.bytes _ _ _ (by rw [← hb, ← hc]; simp))⟩⟩
end
end
end Mine
end
section
namespace Mine
open PySem PySem.W PySem.Calls PyProof.Rows
noncomputable section
theorem take_eq {α : Type} : ∀ (n : Nat) (l : List α), take' n l = l.take n
 | 0, _ => by simp; rfl
 | n + 1, [] => rfl
 | n + 1, x :: l => by
  show x :: take' n l = _
  rw [take_eq n l]; rfl
theorem drop_eq {α : Type} : ∀ (n : Nat) (l : List α), drop' n l = l.drop n
 | 0, _ => rfl
 | n + 1, [] => rfl
 | n + 1, x :: l => by
  show drop' n l = _
  rw [drop_eq n l]; rfl
theorem bound_eq (i : Int) (n : Nat) : bound i n = clipAt n i := by
 cases i with
 | ofNat m =>
  show (Bool.rec n m (Nat.ble m n) : Nat) = _
  have e : clipAt n (Int.ofNat m) = min m n := clipAt_nat n m
  rw [e]
  cases q : Nat.ble m n with
  | true => have := Nat.le_of_ble_eq_true q; rw [Nat.min_eq_left this]
  | false =>
   have h : ¬ m ≤ n := fun h => by rw [Nat.ble_eq_true_of_le h] at q; cases q
   rw [Nat.min_eq_right (by omega)]
 | negSucc m =>
  show n - (m + 1) = _
  unfold clipAt
  have : Int.negSucc m < 0 := by omega
  rw [if_pos this]
  omega
theorem cut_ok {α : Type} {l r : List α} {y z : V} (h : cut l (bnd y) (bnd z) = .at r) : ∃ lo hi : Option Int, (y = (match lo with | none => .none | some i => .int i)) ∧ (z = (match hi with | none => .none | some i => .int i)) ∧
 r = (l.drop (lo.elim 0 (clipAt l.length))).take (hi.elim l.length (clipAt l.length) - lo.elim 0 (clipAt l.length)) := by
 cases y with
 | none =>
  cases z with
  | none => cases h; exact ⟨none, none, rfl, rfl, by simp⟩
  | int i =>
   have h : (OL.at (take' (bound i (len l)) l) : OL (List α)) = .at r := h
   cases h
   exact ⟨none, some i, rfl, rfl, by rw [take_eq, bound_eq, len_eq]; simp⟩
  | _ => cases h
 | int j =>
  cases z with
  | none =>
   have h : (OL.at (drop' (bound j (len l)) l) : OL (List α)) = .at r := h
   cases h
   refine ⟨some j, none, rfl, rfl, ?_⟩
   rw [drop_eq, bound_eq, len_eq]
   show _ = (l.drop (clipAt l.length j)).take (l.length - clipAt l.length j)
   rw [List.take_of_length_le (by simp)]
  | int i =>
   have h : (OL.at (drop' (bound j (len l)) (take' (bound i (len l)) l)) : OL (List α)) = .at r := h
   cases h
   refine ⟨some j, some i, rfl, rfl, ?_⟩
   rw [drop_eq, take_eq, bound_eq, bound_eq, len_eq]
   exact List.drop_take
  | _ => cases h
 | _ => cases z <;> cases h
section
variable {prog : Program} {w : World} {A : Around} {E : Value → Shared → Prop} {s : Shared}
theorem Rvs.cut {S : Stage} {G : Led} {ad : List Addr} {l : List V} {vs : List Value} (r : Rvs S G ad l vs) (a k : Nat) : Rvs S G ad ((l.drop a).take k) ((vs.drop a).take k) := by
 have h1 : ∀ (a : Nat) {l : List V} {vs : List Value}, Rvs S G ad l vs → Rvs S G ad (l.drop a) (vs.drop a) := by
  intro a
  induction a with
  | zero => intro l vs r; exact r
  | succ a ih => intro l vs r; cases r with
   | nil => exact .nil
   | cons h t => exact ih t
 have h2 : ∀ (k : Nat) {l : List V} {vs : List Value}, Rvs S G ad l vs → Rvs S G ad (l.take k) (vs.take k) := by
  intro k
  induction k with
  | zero => intro l vs r; simp; exact .nil
  | succ k ih => intro l vs r; cases r with
   | nil => exact .nil
   | cons h t => exact .cons h (ih t)
 exact h2 k (h1 a r)
theorem adjust_any (lo hi : Option Int) (n : Nat) : Builtin.Slice.sliceAdjust lo hi 1 (n : Int) = (((lo.elim 0 (clipAt n) : Nat) : Int), ((hi.elim n (clipAt n) : Nat) : Int)) := by
 unfold Builtin.Slice.sliceAdjust
 cases lo <;> cases hi <;> simp [clipAt_cast] <;> (first | constructor | skip) <;> (try split) <;> omega
theorem places_any (a b : Nat) : Builtin.Slice.slicePlaces (a : Int) (b : Int) 1 = b - a := by
 unfold Builtin.Slice.slicePlaces
 have h1 : (1 : Int) > 0 := by omega
 simp only [h1, if_true, Int.ediv_one]
 split <;> omega
theorem part_any {v : Value} {o : Option Int} (h : IsPart v o) {Q : Option Int → Shared → Prop} (q : Q o s) : wpAny (model prog w) A (Builtin.Slice.slicePartIndex v) Q E s := by
 cases h with
 | none => exact slicePart_none q
 | int i t => exact slicePart_int q
theorem sliceApplied_any {sl : Addr} {l u : Value} {lo hi : Option Int} {n : Nat} {Q : Int × Int × Nat → Shared → Prop} (hl : IsPart l lo) (hu : IsPart u hi) (hs : s.heap.IsSliceOf sl l u .none)
 (h : Q (((lo.elim 0 (clipAt n) : Nat) : Int), 1, hi.elim n (clipAt n) - lo.elim 0 (clipAt n)) s) :
 wpAny (model prog w) A (Builtin.Slice.sliceApplied (.ref sl) (pure (n : Int))) Q E s := by
 obtain ⟨os, hos, hcs, hds⟩ := id hs
 unfold Builtin.Slice.sliceApplied Builtin.Slice.sliceFields
 refine wpAny_bind (wpAny_bind (wpAny_field hos hds (x := l) rfl (wpAny_bind (wpAny_field hos hds (x := u) rfl (wpAny_bind (wpAny_field hos hds (x := .none) rfl (wpAny_pure ?_)))))))
 refine wpAny_bind (slicePart_none ?_)
 show wpAny _ _ (if ((1 : Int) == 0) = true then _ else _) _ _ s
 rw [if_neg (by decide)]
 refine wpAny_bind (part_any hl (wpAny_bind (part_any hu (wpAny_bind (wpAny_pure ?_)))))
 show wpAny _ _ (match Builtin.Slice.sliceAdjust lo hi 1 (n : Int) with | (lo, hi) => pure (lo, (1 : Int), Builtin.Slice.slicePlaces lo hi 1)) _ _ s
 rw [adjust_any]
 show wpAny _ _ (pure (((lo.elim 0 (clipAt n) : Nat) : Int), (1 : Int), Builtin.Slice.slicePlaces ((lo.elim 0 (clipAt n) : Nat) : Int) ((hi.elim n (clipAt n) : Nat) : Int) 1)) _ _ s
 rw [places_any]
 exact wpAny_pure h
theorem pick_any (xs : Array Value) (a k : Nat) : ((List.range k).filterMap fun (j : Nat) => xs[((a : Int) + (j : Int) * 1).toNat]?).toArray = ((xs.toList.drop a).take k).toArray := by
 have e : (fun (j : Nat) => xs[((a : Int) + (j : Int) * 1).toNat]?) = fun j => xs[a + j]? := by
  funext j
  have : ((a : Int) + (j : Int) * 1).toNat = a + j := by omega
  rw [this]
 rw [e]
 have := pick_run xs a k
 rw [List.filterMap_map] at this
 have e2 : ((fun x => xs[x]?) ∘ fun x => a + x) = fun j => xs[a + j]? := rfl
 rw [e2] at this
 rw [this]
theorem getItem_tuple_any {t sl : Addr} {items : Array Value} {l u : Value} {lo hi : Option Int} {Q : Value → Shared → Prop} (ht : IsTup s.heap t items) (hl : IsPart l lo) (hu : IsPart u hi) (hs : s.heap.IsSliceOf sl l u .none)
 (h1 : Q (.ref s.heap.objs.size) { s with heap := s.heap.push { cls := .type "tuple", data := .seq ((items.toList.drop (lo.elim 0 (clipAt items.size))).take (hi.elim items.size (clipAt items.size) - lo.elim 0 (clipAt items.size))).toArray } })
 (h2 : (items.toList.drop (lo.elim 0 (clipAt items.size))).take (hi.elim items.size (clipAt items.size) - lo.elim 0 (clipAt items.size)) = items.toList → Q (.ref t) s)
 (hsz : items.size ≤ 4096) : wpAny (model prog w) A (getItem (.ref t) (.ref sl)) Q E s := by
 generalize ea : lo.elim 0 (clipAt items.size) = a at *
 generalize ek : hi.elim items.size (clipAt items.size) - a = k at *
 have hdrop : sizeOk (.seq ((items.toList.drop a).take k).toArray) := by
  show ((items.toList.drop a).take k).toArray.size ≤ sizeLine
  rw [List.size_toArray, List.length_take, List.length_drop, Array.length_toList, sizeLine_eq]
  omega
 obtain ⟨os, hos, hcs, hds⟩ := id hs
 have hTs : s.TypeIs (.ref sl) "slice" := ⟨os, hos, hcs⟩
 unfold getItem
 try with_reducible refine wpAny_holding ?_
 first | refine wpAny_bind (wpAny_pure ?_) | skip
 refine wpAny_bind (wpAny_sequenceKey ht.typeIs (by decide) ?_)
 refine wpAny_bind (wpAny_callSpecial?_slot (name := Str.ofString "__getitem__") ht.typeIs slot_tuple_getitem
  (wpAny_call_entry slot_tuple_getitem ht.typeIs entry_tuple_getitem ?_ (args_tuple_getitem _ _)))
 show wpAny _ _ (Builtin.Tuple.tupleItemsOf (.ref t) >>= _) _ _ s
 refine wpAny_bind (tupleItemsOf_ ht ?_)
 refine wpAny_bind (wpAny_typeOf hTs ?_)
 rw [if_pos (by decide)]
 refine wpAny_bind (sliceApplied_any hl hu hs ?_)
 rw [ea, ek]
 show wpAny _ _ (if ((a : Int) == 0 && (1 : Int) == 1 && k == items.size) = true then _ else _) _ _ s
 by_cases hc : ((a : Int) == 0 && (1 : Int) == 1 && k == items.size) = true
 · rw [if_pos hc]
   simp only [Bool.and_eq_true, beq_iff_eq] at hc
   have ha : a = 0 := by omega
   have hk : k = items.size := hc.2
   refine wpAny_bind (m := Builtin.Tuple.tupleIsExact _) ?_
   unfold Builtin.Tuple.tupleIsExact
   refine wpAny_bind (wpAny_typeOf ht.typeIs (wpAny_pure ?_))
   rw [if_pos (by decide)]
   refine wpAny_bind (wpAny_rule ?_)
   have h3 := h2 (by rw [ha, hk, List.drop_zero]; exact List.take_of_length_le (by simp))
   first
    | exact wpAny_bind (wpAny_pure (wpAny_pure ⟨_, rfl, wpAny_pure h3⟩))
    | exact wpAny_pure ⟨_, rfl, wpAny_pure h3⟩
    | exact wpAny_bind (wpAny_pure (wpAny_bind (wpAny_pure (wpAny_pure ⟨_, rfl, wpAny_pure h3⟩))))
 · rw [if_neg hc, pick_any items a k]
   first
    | exact wpAny_bind (m := Builtin.Tuple.tupleExact _) (wpAny_newObj_type (wpAny_pure ⟨_, rfl, wpAny_pure h1⟩) hdrop)
    | exact wpAny_bind (m := Builtin.Tuple.tupleExact _) (wpAny_newObj_type (wpAny_bind (wpAny_pure (wpAny_pure ⟨_, rfl, wpAny_pure h1⟩))) hdrop)
    | exact wpAny_bind (wpAny_bind (m := Builtin.Tuple.tupleExact _) (wpAny_newObj_type (wpAny_pure (wpAny_pure ⟨_, rfl, wpAny_pure h1⟩)) hdrop))
    | exact wpAny_bind (wpAny_bind (m := Builtin.Tuple.tupleExact _) (wpAny_newObj_type (wpAny_pure ⟨_, rfl, wpAny_pure h1⟩) hdrop))
end
section
variable {S : Stage} {n : Nat} {sc : Scope} {ns : List (Option PySem.Str)}
structure SO (S : Stage) (n : Nat) (sc : Scope) (ns : List (Option PySem.Str)) (o : Option PySem.Expr) (d : DE) : Prop where I ::
 go : ∀ {A : Around} {E : Value → Shared → Prop} {Q : Value → Shared → Prop} {env h₀ m G D C ad ρ st s v st'}, Room n A → Fix S sc ns env h₀ → Rel S ns env h₀ m G D C ad ρ st s → d ρ st = .ok v st' →
  (∀ s' G' D' ad' cv, Rel S ns env h₀ m G' D' C ad' ρ st' s' → G ⊆ G' → ad <+: ad' → Rv S G' ad' v cv → Q cv s') →
  wpAny (model S.prog S.w) A (evalPart o env) Q E s
theorem SO.no : SO S n sc ns Option.none (cst .none) := ⟨fun zz zz R h q => by
 cases h
 exact wpAny_pure (q _ _ _ _ _ R (List.Subset.refl _) (List.prefix_refl _) .none)⟩
theorem SO.yes {e : PySem.Expr} {d : DE} (h : SE S n sc ns e d) : SO S n sc ns (some e) d := ⟨fun hA F R e q => h.go hA F R e q⟩
theorem part_of {G : Led} {ad : List Addr} {y : V} {cy : Value} {lo : Option Int} (r : Rv S G ad y cy) (h : y = (match lo with | Option.none => .none | some i => .int i)) : IsPart cy lo := by
 cases lo with
 | none => subst h; cases r; exact .none
 | some i => subst h; cases r; exact .int _ _
theorem SE.slc {e : PySem.Expr} {lower upper : Option PySem.Expr} {p pos : Pos} {a b c : DE} (ha : SE S n sc ns e a) (hb : SO S n sc ns lower b) (hc : SO S n sc ns upper c) :
 SE S n sc ns (.Subscript e (.Slice lower upper Option.none p) pos) (Mine.slc a b c) := ⟨fun {A E Q env h₀ m G D C ad ρ st s v st'} hA F R h q => by
 obtain ⟨x, s1, e1, h1⟩ := R_ok h
 obtain ⟨y, s2, e2, h2⟩ := R_ok h1
 obtain ⟨z, s3, e3, h3⟩ := R_ok h2
 refine Subscript_ (ha.go hA F R e1 fun s' G' D' ad' cx R1 g1 p1 rx => wpAny_Slice (hb.go hA F R1 e2 fun s'' G'' D'' ad'' cy R2 g2 p2 ry => hc.go hA F R2 e3 fun s4 G4 D4 ad4 cz R3 g3 p3 rz => wpAny_pure ?_))
 have rx3 := rx.mono (List.Subset.trans g2 g3) (p2.trans p3)
 have ry3 := ry.mono g3 p3
 have gg := List.Subset.trans g1 (List.Subset.trans g2 g3)
 have pp := p1.trans (p2.trans p3)
 have R4 := R3.more s4.toks (R3.fr.push { cls := .type "slice", data := .fields #[cy, cz, .none] }) (News.push R3.fr R3.nw _) R3.lt
 have hsl : (s4.heap.push { cls := .type "slice", data := .fields #[cy, cz, .none] }).IsSliceOf s4.heap.objs.size cy cz .none := Heap.IsSliceOf.new ..
 cases x with
 | tup l =>
  obtain ⟨hl, h4⟩ := bt_ok h3
  obtain ⟨r, hr, h5⟩ := ol_ok (o := cut l (bnd y) (bnd z)) h4
  cases h5
  obtain ⟨lo, hi, hy, hz, rfl⟩ := cut_ok hr
  have hl4 : l.length ≤ 4096 := by have := Nat.le_of_ble_eq_true hl; rwa [len_eq] at this
  apply Rv.etup rx3; intro vs t k o rs
  have hvl : vs.toArray.size = l.length := by simp [rs.length]
  have ht := R4.tup F (o.mono (List.subset_cons_self _ _))
  refine tail_any ht.typeIs slot_tuple_getitem.lookup (getItem_tuple_any ht (part_of ry3 hy) (part_of rz hz) hsl ?_ (fun hw => ?_) (by rw [hvl]; exact hl4)) rfl
  · have R5 := R4.more s4.toks (R4.fr.push { cls := .type "tuple", data := .seq ((vs.toArray.toList.drop (lo.elim 0 (clipAt vs.toArray.size))).take (hi.elim vs.toArray.size (clipAt vs.toArray.size) - lo.elim 0 (clipAt vs.toArray.size))).toArray }) (News.push R4.fr R4.nw _) R4.lt
    refine q _ _ _ _ _ R5 (List.Subset.trans gg (List.Subset.trans (List.subset_cons_self _ _) (List.subset_cons_self _ _))) pp (.tup _ _ _ 0 (.inl (.head _)) ?_)
    rw [hvl]
    exact (rs.mono (List.Subset.trans (List.subset_cons_self _ _) (List.subset_cons_self _ _)) (List.prefix_refl _)).cut _ _
  · refine q _ _ _ _ _ R4 (List.Subset.trans gg (List.subset_cons_self _ _)) pp (.tup _ vs _ k (o.mono (List.subset_cons_self _ _)) ?_)
    have h6 := (rs.cut (lo.elim 0 (clipAt l.length)) (hi.elim l.length (clipAt l.length) - lo.elim 0 (clipAt l.length)))
    rw [hvl] at hw
    have h7 : vs.toArray.toList = vs := rfl
    rw [h7] at hw
    rw [hw] at h6
    exact h6.mono (List.subset_cons_self _ _) (List.prefix_refl _)
 | bytes l =>
  obtain ⟨hl, h4⟩ := bt_ok h3
  obtain ⟨r, hr, h5⟩ := ol_ok (o := cut l (bnd y) (bnd z)) h4
  cases h5
  obtain ⟨lo, hi, hy, hz, rfl⟩ := cut_ok hr
  have hl4 : l.length ≤ 4096 := by have := Nat.le_of_ble_eq_true hl; rwa [len_eq] at this
  apply Rv.ebytes rx3; intro bb t ee
  have hbl : bb.size = l.length := by rw [← ee]; simp
  refine tail_any (typeIs_bytes _ _ _) FB.slot_bytes_getitem.lookup (getItem_meets (typeIs_bytes _ _ _) (by decide) FB.slot_bytes_getitem FB.entry_bytes_getitem (FB.args_bytes_getitem_2 _ _) (KBc.meets_slice2 bb t _ (part_of ry3 hy) (part_of rz hz)) ⟨hsl, ?_, fun t' k => ?_⟩) rfl
  · exact Nat.le_trans (KBc.size_picked_le bb lo hi) (by rw [hbl, sizeLine_eq]; omega)
  · refine q _ _ _ _ _ (R4.toks k) (List.Subset.trans gg (List.subset_cons_self _ _)) pp (.bytes _ _ _ ?_)
    rw [KBc.picked_eq, hbl, ← ee]
    simp [List.map_take, List.map_drop]
 | _ => cases h3⟩
end
end
end Mine
end
section
namespace Mine
open PySem PySem.W PySem.Calls PyProof.Rows
noncomputable section
theorem mapSeq_set (vs : List Value) (n j : Nat) (v : Value) : Obj.mapSeq (·.setIfInBounds j v) (lstOf vs n) = lstOf (vs.set j v) n := by
 show Obj.mapSeq (·.setIfInBounds j v) { cls := .type "list", data := .seq vs.toArray n } = _
 simp [Obj.mapSeq, lstOf]
theorem setItem_plain' {prog : Program} {w : World} {A : Around} {E : Value → Shared → Prop} {s : Shared} {l : Addr} {vs : List Value} {n : Nat} {k : Int} {t : Tok} {v : Value} {Q : Unit → Shared → Prop} (ho : s.heap.get? l = some (lstOf vs n)) (h0 : 0 ≤ k) (hfit : k < 2 ^ 63) (hj : k < vs.length)
 (hQ : ∀ h', h'.get? l = some (lstOf (vs.set k.toNat v) n) → Heap.SameBut l s.heap h' → Q () { s with heap := h' }) : wpAny (model prog w) A (setItem (.ref l) (.int k t) v) Q E s := by
 have hl : s.heap.IsList l vs.toArray := ⟨_, ho, rfl, n, rfl⟩
 have hd : (lstOf vs n).data = .seq vs.toArray n := rfl
 unfold setItem
 try with_reducible refine wpAny_holding ?_
 first | refine wpAny_bind (wpAny_pure ?_) | skip
 refine wpAny_bind (wpAny_sequenceKey hl.typeIs (by decide) ?_)
 refine wpAny_bind (wpAny_callSpecial?_slot (name := Str.ofString "__setitem__") hl.typeIs slot_list_setitem
  (wpAny_call_entry slot_list_setitem hl.typeIs entry_list_setitem ?_ (args_list_setitem _ _ _)))
 show wpAny _ _ (Builtin.List.listSubscript? (.int k t) >>= _) _ _ s
 refine wpAny_bind (wpAny_listSubscript_int (fitsIndex_of h0 hfit) ?_)
 clear hfit
 obtain ⟨j, rfl⟩ := Int.eq_ofNat_of_zero_le h0
 have hj' : j < vs.length := by omega
 have hx' : vs.toArray[j]? = some vs[j] := by simp [hj']
 show wpAny _ _ ((seqItemAt l j >>= fun r => pure (r.map (j, ·))) >>= _) _ _ s
 refine wpAny_bind (wpAny_bind (wpAny_seqItemAt ho hd (wpAny_pure ?_)))
 rw [hx']
 show wpAny _ _ (setSeqItemAt l j v >>= _) _ _ s
 have hfin : (s.heap.update l (Obj.mapSeq (·.setIfInBounds j v))).get? l = some (lstOf (vs.set j v) n) := by
  rw [Heap.get?_update_self _ ho (by rw [mapSeq_set]; rfl), mapSeq_set]
 refine wpAny_bind (wpAny_setSeqItemAt ho hd ?_)
 first
  | exact wpAny_bind (wpAny_pure (wpAny_pure ⟨.none, rfl, wpAny_pure (hQ _ hfin (Heap.SameBut.update ..))⟩))
  | exact wpAny_pure ⟨.none, rfl, wpAny_pure (hQ _ hfin (Heap.SameBut.update ..))⟩
theorem setItem_plain {prog : Program} {w : World} {A : Around} {E : Value → Shared → Prop} {s : Shared} {l : Addr} {vs : List Value} {n j : Nat} {t : Tok} {v : Value} {Q : Unit → Shared → Prop} (ho : s.heap.get? l = some (lstOf vs n)) (hj : j < vs.length) (h4 : vs.length ≤ 4096)
 (hQ : ∀ h', h'.get? l = some (lstOf (vs.set j v) n) → Heap.SameBut l s.heap h' → Q () { s with heap := h' }) : wpAny (model prog w) A (setItem (.ref l) (.int j t) v) Q E s :=
 setItem_plain' ho (by omega) (by omega) (by omega) hQ
theorem setL_ok : ∀ {m : Nat} {x : V} {l r : List V}, setL m x l = .at r → m < l.length ∧ r = l.set m x
 | 0, x, [], r, h => by cases h
 | 0, x, _ :: t, r, h => by cases h; exact ⟨by simp, rfl⟩
 | m + 1, x, [], r, h => by cases h
 | m + 1, x, w :: t, r, h => by
  have h : (OL.rec .no (fun r => .at (w :: r)) (setL m x t) : OL (List V)) = .at r := h
  cases q : setL m x t with
  | no => rw [q] at h; cases h
  | «at» r' =>
   rw [q] at h; cases h
   obtain ⟨h1, rfl⟩ := setL_ok q
   exact ⟨by simpa using h1, rfl⟩
section
variable {S : Stage} {n : Nat} {sc : Scope} {ns : List (Option PySem.Str)}
theorem Rvs.set {G : Led} {ad : List Addr} {v : V} {c : Value} (r : Rv S G ad v c) : ∀ {l : List V} {cs : List Value} (m : Nat), Rvs S G ad l cs → Rvs S G ad (l.set m v) (cs.set m c) := by
 intro l cs m z
 revert m
 apply z.ind
 · exact fun zz => .nil
 · intro _ _ _ _ h t ih m
   cases m with
   | zero => exact .cons r t
   | succ m => exact .cons h (ih m)
theorem dict_setItem {G : Led} {ad : List Addr} {s : Shared} {A : Around} {E : Value → Shared → Prop} {Q : Unit → Shared → Prop} {k x : V} {ck cx : Value} {l l' : List (V × V)} {es : List DictEntry} {a : Addr} {nn : Nat} (hd : Rds S G ad l es) (h : dputC k x l = .at l') (rk : Rv S G ad k ck) (rx : Rv S G ad x cx)
 (ha : s.heap.get? a = some (dictOf es nn))
 (q : ∀ h' es' n', h'.get? a = some (dictOf es' n') → Rds S G ad l' es' → Heap.SameBut a s.heap h' → Q () { s with heap := h', toks := s.toks + 1 }) : wpAny (model S.prog S.w) A (setItem (.ref a) ck cx) Q E s := by
 obtain ⟨hk, hu, hl, rfl⟩ := dputC_ok h
 rcases sameK_kind hk with ⟨i, rfl⟩ | ⟨i, rfl⟩
 · obtain ⟨kvs, k1, k2, k3⟩ := kvs_int hd hk hu
   have hdo : s.heap.DictOf (PySem.intKind S.prog S.w) a kvs := ⟨_, es.toArray, nn, ha, ⟨rfl, rfl, rfl⟩, rfl, (dict_int hd hk).1, by simpa using k1, k2⟩
   have hkey : (PySem.intKind S.prog S.w).is i ck = true := by cases rk; exact beq_self_eq_true i
   refine wpAny_setItem_pairs hkey hdo (fun h' hd' hs' => ?_) (by rw [sizeLine_eq, ← k3.length]; omega)
   obtain ⟨o', ho', es', ep, x1, x2, x3, x4, x5⟩ := Heap.dictOf_iff.mp hd'
   have eo := dictOf_eq x1 x2
   subst eo
   exact q h' _ ep ho' (rds_int x4 (fun e he => x3 e (by simpa using he)) (all2_int rx k3 k2)) hs'
 · obtain ⟨kvs, k1, k2, k3⟩ := kvs_str hd hk hu
   have hdo : s.heap.DictOf (PySem.strKind S.prog S.w) a kvs := ⟨_, es.toArray, nn, ha, ⟨rfl, rfl, rfl⟩, rfl, (dict_str hd hk).1, by simpa using k1, k2⟩
   have hkey : (PySem.strKind S.prog S.w).is (S.nm i) ck = true := by cases rk; exact beq_self_eq_true (S.nm i)
   refine wpAny_setItem_pairs hkey hdo (fun h' hd' hs' => ?_) (by rw [sizeLine_eq, ← k3.length]; omega)
   obtain ⟨o', ho', es', ep, x1, x2, x3, x4, x5⟩ := Heap.dictOf_iff.mp hd'
   have eo := dictOf_eq x1 x2
   subst eo
   exact q h' _ ep ho' (rds_str x4 (fun e he => x3 e (by simpa using he)) (all2_str rx k3 k2)) hs'
theorem setI_ok {v i x : V} {st : St} {f : St → RS} (h : ∀ j, setI v i x st f ≠ .bad j) : ∃ k, v = .ref k ∧ ((∃ l m r, atT st.t k = some (.list l) ∧ i = .int ((m : Nat) : Int) ∧ setL m x l = .at r ∧ l.length ≤ 4096 ∧ setI v i x st f = f (put v (.list r) st)) ∨
 (∃ l r, atT st.t k = some (.dict l) ∧ dputC i x l = .at r ∧ setI v i x st f = f (put v (.dict r) st))) := by
 cases v with
 | ref k =>
  refine ⟨k, rfl, ?_⟩
  have e : setI (.ref k) i x st f = onO (.ref k) st (.bad 41) (fun zz zz => .bad 41) (fun l => onI i (.bad 41) fun i => Int.rec (fun m => Bool.rec (.bad 41) (OL.rec (.bad 41) (fun r => f (put (.ref k) (.list r) st)) (setL m x l)) (Nat.ble (len l) cap)) (fun zz => .bad 41) i) (fun l => OL.rec (.bad 41) (fun r => f (put (.ref k) (.dict r) st)) (dputC i x l)) := rfl
  rw [e] at h ⊢
  rw [onO_ref] at h ⊢
  cases qa : atT st.t k with
  | none => rw [qa] at h; exact absurd rfl (h 41)
  | some ob =>
   rw [qa] at h
   cases ob with
   | inst _ _ => exact absurd rfl (h 41)
   | dict l =>
    right
    have h : ∀ j, (OL.rec (.bad 41) (fun r => f (put (.ref k) (.dict r) st)) (dputC i x l) : RS) ≠ .bad j := h
    cases q : dputC i x l with
    | no => rw [q] at h; exact absurd rfl (h 41)
    | «at» r =>
     refine ⟨l, r, rfl, q, ?_⟩
     show (OL.rec (.bad 41) (fun r => f (put (.ref k) (.dict r) st)) (dputC i x l) : RS) = _
     rw [q]
   | list l =>
    left
    cases i with
    | int ii =>
     cases ii with
     | negSucc _ => exact absurd rfl (h 41)
     | ofNat m =>
      have h : ∀ j, (Bool.rec (.bad 41) (OL.rec (.bad 41) (fun r => f (put (.ref k) (.list r) st)) (setL m x l)) (Nat.ble (len l) cap) : RS) ≠ .bad j := h
      cases q0 : Nat.ble (len l) cap with
      | false => rw [q0] at h; exact absurd rfl (h 41)
      | true =>
       rw [q0] at h
       have h : ∀ j, (OL.rec (.bad 41) (fun r => f (put (.ref k) (.list r) st)) (setL m x l) : RS) ≠ .bad j := h
       cases q : setL m x l with
       | no => rw [q] at h; exact absurd rfl (h 41)
       | «at» r =>
        refine ⟨l, m, r, rfl, rfl, q, by have := Nat.le_of_ble_eq_true q0; rwa [len_eq] at this, ?_⟩
        show (Bool.rec (.bad 41) (OL.rec (.bad 41) (fun r => f (put (.ref k) (.list r) st)) (setL m x l)) (Nat.ble (len l) cap) : RS) = _
        rw [q0, q]
    | _ => exact absurd rfl (h 41)
 | _ => exact absurd rfl (h 41)
theorem S1.sets {o i value : PySem.Expr} {p pos : Pos} {a b c : DE} (ha : SE S n sc ns o a) (hb : SE S n sc ns i b) (hc : SE S n sc ns value c)
 (hs : ∀ env, swapsWith value (some (.Subscript o i p)) pos.line env = pure false := by intro _; rfl) : S1 S n sc ns (.Assign [.Subscript o i p] value pos) (sets a b c) := ⟨fun {A E Q env h₀ m G D C ad ρ st s} hA F R hbad q => by
 obtain ⟨x, s1, e1, eq1⟩ := RS_ok hbad
 have eq1 : Mine.sets a b c ρ st = _ := eq1
 rw [eq1] at q
 have hb1 : ∀ k, Mine.sets a b c ρ st ≠ .bad k := hbad
 rw [eq1] at hb1
 obtain ⟨v, s2, e2, eq2⟩ := RS_ok hb1
 rw [eq2] at q hb1
 obtain ⟨k, s3, e3, eq3⟩ := RS_ok hb1
 rw [eq3] at q hb1
 refine wpAny_Assign_Subscript (hc.go hA F R e1 fun s' G' D' ad' cx R1 g1 p1 rx => ha.go hA F R1 e2 fun s'' G'' D'' ad'' cv R2 g2 p2 rv => hb.go hA F R2 e3 fun s4 G4 D4 ad4 ck R3 g3 p3 rk => ?_) (hs _)
 have rx3 := rx.mono (List.Subset.trans g2 g3) (p2.trans p3)
 have rv3 := rv.mono g3 p3
 have gg := List.Subset.trans g1 (List.Subset.trans g2 g3)
 have pp := p1.trans (p2.trans p3)
 obtain ⟨j, rfl, ⟨l, m', r, hat, rfl, h1, h4, h2⟩ | ⟨l, r, hat, h1, h2⟩⟩ := setI_ok hb1
 · rw [h2, put_ref] at q
   obtain ⟨hm, rfl⟩ := setL_ok h1
   apply Rv.eref rv3; intro aa ea
   apply Rv.eint rk; intro t
   obtain ⟨vs, kk, x1, x2, x3⟩ := R3.list ea hat
   refine setItem_plain x2 (by rw [x3.length]; exact hm) (by rw [x3.length]; exact h4) fun h' hk' hs' => ?_
   have R4 := R3.change (o := .list (l.set m' x)) s4.toks x1 ea hat hs' hk' (.list _ _ _ _ (Rvs.set rx3 m' x3))
   exact q _ _ ⟨rfl, _, _, _, _, _, R4, gg, pp, rfl⟩
 · rw [h2, put_ref] at q
   apply Rv.eref rv3; intro aa ea
   obtain ⟨es, kk, x1, x2, x3⟩ := R3.dict ea hat
   refine dict_setItem x3 h1 rk rx3 x2 fun h' es' n' hk' rd' hs' => ?_
   have R4 := R3.change (o := .dict r) (s4.toks + 1) x1 ea hat hs' hk' (.dict _ _ _ _ rd')
   exact q _ _ ⟨rfl, _, _, _, _, _, R4, gg, pp, rfl⟩⟩
end
end
end Mine
end
section
namespace Mine
open PySem PySem.W PySem.Calls PyProof.Rows
noncomputable section
section
variable {prog : Program} {w : World} {A : Around} {E : Value → Shared → Prop} {s : Shared}
theorem draw_list {it l : Addr} {items : Array Value} (hne : l ≠ it) : ∀ (n i : Nat) (s : Shared) (Q : List Value → Shared → Prop), s.heap.IsListIter it l i → s.heap.IsList l items → i + n ≤ items.size →
 (∀ h', h'.IsListIter it l (i + n) → Heap.SameBut it s.heap h' → Q ((items.toList.drop i).take n) { s with heap := h' }) → wpAny (model prog w) A (draw (.ref it) n) Q E s
 | 0, i, s, Q, hit, _, _, hQ => by
  show wpAny _ _ (pure []) Q E s
  exact wpAny_pure (by simpa using hQ s.heap hit (Heap.SameBut.refl ..))
 | n + 1, i, s, Q, hit, ht, hle, hQ => by
  have hlt : i < items.size := by omega
  show wpAny _ _ (pyNext (.ref it) >>= _) Q E s
  refine wpAny_bind (wpAny_pyNext_list_item hit ht (x := items[i]) (by simp [hlt]) fun h₁ hit₁ hs₁ => ?_)
  refine wpAny_bind (wpAny_holding (draw_list hne n (i + 1) _ _ hit₁ (ht.extBut hs₁.extBut hne) (by omega) fun h₂ hit₂ hs₂ => wpAny_pure ?_))
  have hd : items.toList.drop i = items[i] :: items.toList.drop (i + 1) := by simp [List.drop_eq_getElem_cons, hlt]
  have := hQ h₂ (by rw [show i + (n + 1) = i + 1 + n by omega]; exact hit₂) (hs₁.trans hs₂)
  rw [hd, List.take_succ_cons] at this
  exact this
theorem unpackItems_list {t : Addr} {items : Array Value} {Q : List Value → Shared → Prop} (hh : A.handled = none) (ht : s.heap.IsList t items)
 (hQ : ∀ h', Heap.ExtBut s.heap.objs.size s.heap h' → Q items.toList { s with heap := h' }) : wpAny (model prog w) A (unpackItems (.ref t) items.size none) Q E s := by
 have hlt : t ≠ s.heap.objs.size := by obtain ⟨o, ho, _⟩ := ht; exact Nat.ne_of_lt (Heap.lt_size ho)
 have push : ∀ o, (s.heap.push o).IsList t items := fun o => let ⟨o', ho', r⟩ := ht; ⟨o', Heap.get?_push_of_some _ ho', r⟩
 unfold unpackItems
 refine wpAny_bind ?_
 · unfold notIterableAtAll
   refine wpAny_bind (wpAny_specialOf ht.typeIs slot_list_iter.lookup ?_)
   refine wpAny_pure ?_
   simp only [Bool.false_eq_true, if_false]
   refine wpAny_bind (wpAny_holding (wpAny_pyIter_list ht ?_))
   refine wpAny_bind (wpAny_holding (draw_list hlt items.size 0 _ _ ⟨_, Heap.get?_push_size _ rfl, rfl, rfl⟩ (push _) (by omega) fun h₁ hit₁ hs₁ => ?_))
   have hall : List.take items.size (List.drop 0 items.toList) = items.toList := by
    rw [List.drop_zero]; exact List.take_of_length_le (by simp)
   rw [hall]
   rw [if_neg (by simp)]
   have ht₁ : h₁.IsList t items := (push _).extBut hs₁.extBut hlt
   refine wpAny_bind (wpAny_holding (wpAny_pyNext_list_end hh hit₁ ht₁ (by simp) fun h₂ he₂ => ?_))
   simp only [Option.isSome_none, Bool.false_eq_true, if_false]
   refine wpAny_pure (hQ h₂ fun b o hb e => he₂ b o hb (hs₁.extBut b o hb (Heap.get?_push_of_some _ e)))
end
section
variable {S : Stage} {n : Nat} {sc : Scope} {ns : List (Option PySem.Str)}
structure TA (S : Stage) (n : Nat) (sc : Scope) (ns : List (Option PySem.Str)) (t : PySem.Expr) (a : DA) : Prop where I ::
 go : ∀ {A : Around} {E : Value → Shared → Prop} {Q : Unit → Shared → Prop} {env h₀ m G D C ad ρ st s v cv}, Room n A → Fix S sc ns env h₀ → Rel S ns env h₀ m G D C ad ρ st s → Rv S G ad v cv → (∀ k, a v ρ st ≠ .bad k) →
  (∀ s' m' G' D' C' ad' ρ' st', a v ρ st = .next ρ' st' → Rel S ns env h₀ m' G' D' C' ad' ρ' st' s' → G ⊆ G' → ad <+: ad' → C'.map (·.1) = C.map (·.1) → Q () s') → wpAny (model S.prog S.w) A (assign t env cv) Q E s
theorem TA.name {x : PySem.Str} {p : Pos} {k : Nat} (e : ns[k]? = some (some x) := by kernel_rfl) (hk : sc.names.lookup x = some .local ∨ sc.names.lookup x = some .cell := by exact .inl (by kernel_rfl)) : TA S n sc ns (.Name x p) (aN k) := ⟨fun hA F R r hb q =>
 wpAny_assign_Name (store_var F R e hk r fun s' m' C' R2 hc => q _ _ _ _ _ _ _ _ rfl R2 (List.Subset.refl _) (List.prefix_refl _) hc)⟩
theorem TA.attr {o : PySem.Expr} {x : PySem.Str} {p : Pos} {cs : List Nat} {k : Nat} {d : DE} (hd : SE S n sc ns o d) (hc : ∀ c ∈ cs, Cls S c ∧ S.an c k = some x) : TA S n sc ns (.Attribute o x p) (aA cs k d) := ⟨fun {A E Q env h₀ m G D C ad ρ st s v cv} hA F R r hb q => by
 obtain ⟨w, s2, e2, eq2⟩ := RS_ok hb
 have eq2 : Mine.aA cs k d v ρ st = _ := eq2
 have hb2 : ∀ j, Mine.aA cs k d v ρ st ≠ .bad j := hb
 rw [eq2] at hb2
 rw [assign_Attribute]
 refine wpAny_bind (wpAny_holding (hd.go hA F R e2 fun s'' G'' D'' ad'' cw R2 g2 p2 r2 => ?_))
 refine wpAny_bind (wpAny_standAt ?_)
 refine wpAny_bind (wpAny_holding (set_attr hc F R2 r2 (r.mono g2 p2) hb2 fun s3 D3 st3 e3 R3 => ?_))
 exact wpAny_release (q _ _ _ _ _ _ _ _ (eq2.trans e3) R3 g2 p2 rfl)⟩
def TAs (S : Stage) (n : Nat) (sc : Scope) (ns : List (Option PySem.Str)) (ts : List PySem.Expr) (as : List DA) : Prop :=
 (∀ env, (assignEach ts env).findIdx? (·.1) = Option.none ∧ (assignEach ts env).length = as.length) ∧
 ∀ {A : Around} {E : Value → Shared → Prop} {Q : Unit → Shared → Prop} {env h₀ m G D C ad ρ st s vs cs}, Room n A → Fix S sc ns env h₀ → Rel S ns env h₀ m G D C ad ρ st s → Rvs S G ad vs cs → (∀ k, aAll as vs ρ st ≠ .bad k) →
  (∀ s' m' G' D' C' ad' ρ' st', aAll as vs ρ st = .next ρ' st' → Rel S ns env h₀ m' G' D' C' ad' ρ' st' s' → G ⊆ G' → ad <+: ad' → C'.map (·.1) = C.map (·.1) → Q () s') → wpAny (model S.prog S.w) A (assignInOrder ((assignEach ts env).map (·.2)) cs) Q E s
theorem TAs.nil : TAs S n sc ns [] [] := ⟨fun zz => ⟨rfl, rfl⟩, fun {A E Q env h₀ m G D C ad ρ st s vs cs} hA F R r hb q => by
 cases r with
 | nil => exact assignInOrder_nil (q _ _ _ _ _ _ _ _ rfl R (List.Subset.refl _) (List.prefix_refl _) rfl)
 | cons _ _ => exact absurd rfl (hb 42)⟩
theorem TAs.cons {t : PySem.Expr} {ts : List PySem.Expr} {a : DA} {as : List DA} (h1 : TA S n sc ns t a) (h2 : TAs S n sc ns ts as) (hna : ∀ v ρ st, (∃ ρ' st', a v ρ st = .next ρ' st') ∨ ∃ k, a v ρ st = .bad k)
 (he : ∀ env, assignEach (t :: ts) env = (false, fun v => assign t env v) :: assignEach ts env := by intro _; rfl) : TAs S n sc ns (t :: ts) (a :: as) := ⟨fun env => by
 obtain ⟨x1, x2⟩ := h2.1 env
 rw [he]
 exact ⟨by rw [List.findIdx?_cons]; simp [x1], by simp [x2]⟩, fun {A E Q env h₀ m G D C ad ρ st s vs cs} hA F R r hb q => by
 cases r with
 | nil => exact absurd rfl (hb 42)
 | @cons v cv l cl r1 r2 =>
  have e : aAll (a :: as) (v :: l) ρ st = RS.rec (fun ρ s => aAll as l ρ s) (fun v s => .ret v s) (fun ρ s => .cont ρ s) .bad (a v ρ st) := rfl
  rw [e] at hb q
  rw [he]
  refine assignInOrder_cons (h1.go hA F R r1 (fun k hk => hb k (by rw [hk])) fun s1 m1 G1 D1 C1 ad1 ρ1 st1 e1 R1 g1 p1 c1 => ?_)
  rw [e1] at hb q
  exact h2.2 hA F R1 (r2.mono g1 p1) hb fun s2 m2 G2 D2 C2 ad2 ρ2 st2 e2 R2 g2 p2 c2 => q _ _ _ _ _ _ _ _ e2 R2 (List.Subset.trans g1 g2) (p1.trans p2) (c2.trans c1)⟩
theorem aN_next (k : Nat) (v : V) (ρ : Env) (st : St) : (∃ ρ' st', aN k v ρ st = .next ρ' st') ∨ ∃ j, aN k v ρ st = .bad j := .inl ⟨_, _, rfl⟩
theorem aA_next (cs : List Nat) (k : Nat) (o : DE) (v : V) (ρ : Env) (st : St) : (∃ ρ' st', aA cs k o v ρ st = .next ρ' st') ∨ ∃ j, aA cs k o v ρ st = .bad j := by
 cases q : o ρ st with
 | bad j => exact .inr ⟨j, by show (R.rec (fun w s => setA cs k w v s fun s => .next ρ s) .bad (o ρ st) : RS) = _; rw [q]⟩
 | ok w s =>
  have e : aA cs k o v ρ st = setA cs k w v s fun s => .next ρ s := by show (R.rec (fun w s => setA cs k w v s fun s => .next ρ s) .bad (o ρ st) : RS) = _; rw [q]
  rw [e]
  by_cases hh : ∃ j, setA cs k w v s (fun s => .next ρ s) = .bad j
  · exact .inr hh
  · obtain ⟨i, c, fs, _, _, _, eq⟩ := setA_ok (fun j hj => hh ⟨j, hj⟩)
    exact .inl ⟨_, _, eq⟩
theorem Rel.offSize {env : PySem.Env} {h₀ : Heap} {m : PySem.Str → Option Value} {G D C : Led} {ad : List Addr} {ρ : Env} {st : St} {s : Shared} (R : Rel S ns env h₀ m G D C ad ρ st s) {h1 : Heap} (hs1 : Heap.ExtBut s.heap.objs.size s.heap h1) : Rel S ns env h₀ m G D C ad ρ st { s with heap := h1 } := by
 have hLs : env.locals < s.heap.objs.size := R.fr.ns.lt
 exact R.off (Ne.symm (Nat.ne_of_lt hLs)) (getNone (Nat.le_trans R.fr.above (Nat.le_of_lt hLs))) (fun p hp => Nat.ne_of_lt (R.lt p hp)) fun b o hb e => hs1 b o hb e
theorem unpack_any {A : Around} {E : Value → Shared → Prop} {Q : List Value → Shared → Prop} {env : PySem.Env} {h₀ : Heap} {m : PySem.Str → Option Value} {G D C : Led} {ad : List Addr} {ρ : Env} {st : St} {s : Shared} {v : V} {cv : Value} {l : List V} {k : Nat}
 (hA : Room n A) (F : Fix S sc ns env h₀) (R : Rel S ns env h₀ m G D C ad ρ st s) (r : Rv S G ad v cv) (h : itemsOf v st = .at l) (hk : l.length = k)
 (q : ∀ s' cs, Rel S ns env h₀ m G D C ad ρ st s' → Rvs S G ad l cs → Q cs s') : wpAny (model S.prog S.w) A (unpackItems cv k Option.none) Q E s := by
 cases r with
 | tup _ vs a nn o rs =>
  cases h
  have hs : vs.toArray.size = k := by simp [rs.length, hk]
  subst hs
  exact unpackItems_tuple hA.hd ⟨_, R.obs F o, rfl, nn, rfl⟩ fun h1 hs1 => q _ _ (R.offSize hs1) rs
 | lst _ vs a nn o rs =>
  cases h
  have hs : vs.toArray.size = k := by simp [rs.length, hk]
  subst hs
  exact unpackItems_list hA.hd ⟨_, R.obs F o, rfl, nn, rfl⟩ fun h1 hs1 => q _ _ (R.offSize hs1) rs
 | _ => cases h
theorem onL_RS {o : OL (List V)} {k : Nat} {f : List V → RS} (h : ∀ j, onL o (.bad k) f ≠ .bad j) : ∃ l, o = .at l ∧ onL o (.bad k) f = f l := by
 cases o with
 | no => exact absurd rfl (h k)
 | «at» l => exact ⟨l, rfl, rfl⟩
theorem aAll_len : ∀ {as : List DA} {vs : List V} {ρ : Env} {st : St}, (∀ a ∈ as, ∀ v ρ st, (∃ ρ' st', a v ρ st = .next ρ' st') ∨ ∃ k, a v ρ st = .bad k) → (∀ k, aAll as vs ρ st ≠ .bad k) → vs.length = as.length
 | [], [], _, _, _, _ => rfl
 | [], _ :: _, _, _, _, h => absurd rfl (h 42)
 | _ :: _, [], _, _, _, h => absurd rfl (h 42)
 | a :: as, v :: vs, ρ, st, hn, h => by
  have e : aAll (a :: as) (v :: vs) ρ st = RS.rec (fun ρ s => aAll as vs ρ s) (fun v s => .ret v s) (fun ρ s => .cont ρ s) .bad (a v ρ st) := rfl
  rw [e] at h
  rcases hn a (.head _) v ρ st with ⟨ρ', st', e1⟩ | ⟨k, e1⟩
  · rw [e1] at h
    have := aAll_len (fun b hb => hn b (.tail _ hb)) h
    simp [this]
  · rw [e1] at h; exact absurd rfl (h k)
theorem exec_AssignT {elts : List PySem.Expr} {x1} {tp pos : Pos} {value : PySem.Expr} {env : PySem.Env} (hs : swapsWith value (some (.Tuple elts x1 tp)) pos.line env = pure false) : exec (.Assign [.Tuple elts x1 tp] value pos) env = (do
 standAt pos
 let v ← eval value env
 assignStores env v (← swappedStores [.Tuple elts x1 tp] value env) [fun v => assign (.Tuple elts x1 tp) env v]) := by
 have e : exec (.Assign [.Tuple elts x1 tp] value pos) env = (do
  standAt pos
  if ← swapsWith value (some (.Tuple elts x1 tp)) pos.line env then do
   evalThenUse value env fun v => assignAll v [fun v => assign (.Tuple elts x1 tp) env v]
   pure .next
  else do
   let v ← eval value env
   assignStores env v (← swappedStores [.Tuple elts x1 tp] value env) [fun v => assign (.Tuple elts x1 tp) env v]) := rfl
 rw [e, hs]; rfl
theorem S1.asgT {elts : List PySem.Expr} {x1} {tp pos : Pos} {value : PySem.Expr} {as : List DA} {d : DE} (hd : SE S n sc ns value d) (ht : TAs S n sc ns elts as) (hn : ∀ a ∈ as, ∀ v ρ st, (∃ ρ' st', a v ρ st = .next ρ' st') ∨ ∃ k, a v ρ st = .bad k)
 (hw : ∀ env : PySem.Env, env.scope = sc → swappedStores [.Tuple elts x1 tp] value env = pure Option.none)
 (hs : ∀ env, swapsWith value (some (.Tuple elts x1 tp)) pos.line env = pure false := by intro _; rfl) : S1 S n sc ns (.Assign [.Tuple elts x1 tp] value pos) (asgT as d) := ⟨fun {A E Q env h₀ m G D C ad ρ st s} hA F R hbad q => by
 obtain ⟨v, s1, e1, eq1⟩ := RS_ok hbad
 have eq1 : Mine.asgT as d ρ st = _ := eq1
 rw [eq1] at q
 have hb1 : ∀ k, Mine.asgT as d ρ st ≠ .bad k := hbad
 rw [eq1] at hb1
 obtain ⟨l, hl, eq2⟩ := onL_RS hb1
 rw [eq2] at q hb1
 rw [exec_AssignT (hs _)]
 refine wpAny_bind (wpAny_standAt (wpAny_bind (hd.go hA F R e1 fun s' G' D' ad' cv R1 g1 p1 r => ?_)))
 rw [hw env F.esc]
 refine wpAny_bind (wpAny_pure ?_)
 show wpAny _ _ (do assign (.Tuple elts x1 tp) env cv; pure Flow.next) _ _ _
 refine wpAny_bind ?_
 rw [assign_Tuple]
 refine wpAny_bind (wpAny_standAt ?_)
 unfold unpack
 obtain ⟨t1, t2⟩ := ht.1 env
 rw [t1, t2]
 refine wpAny_bind (wpAny_holding (unpack_any hA F R1 r hl (aAll_len hn hb1) fun s2 cs R2 rs => ?_))
 refine ht.2 hA F R2 rs hb1 fun s3 m3 G3 D3 C3 ad3 ρ3 st3 e3 R3 g3 p3 c3 => wpAny_pure (q _ _ ?_)
 rw [e3]
 exact ⟨rfl, m3, G3, D3, C3, ad3, R3, List.Subset.trans g1 g3, p1.trans p3, c3⟩⟩
end
end
end Mine
end
section
namespace Mine
open PySem PySem.W PySem.Calls PyProof.Rows
noncomputable section
def mset (m : PySem.Str → Option Value) : List (PySem.Str × Value) → PySem.Str → Option Value
 | [] => m
 | p :: ps => mset (fun y => if y = p.1 then some p.2 else m y) ps
theorem mset_out {x : PySem.Str} : ∀ {ps : List (PySem.Str × Value)} {m : PySem.Str → Option Value}, x ∉ ps.map (·.1) → mset m ps x = m x
 | [], _, _ => rfl
 | p :: ps, m, h => by
  rw [List.map_cons, List.mem_cons, not_or] at h
  show mset _ ps x = _
  rw [mset_out h.2, if_neg h.1]
theorem mset_in {x : PySem.Str} {c : Value} : ∀ {ps : List (PySem.Str × Value)} {m : PySem.Str → Option Value}, (ps.map (·.1)).Nodup → (x, c) ∈ ps → mset m ps x = some c
 | p :: ps, m, hn, h => by
  rw [List.map_cons, List.nodup_cons] at hn
  show mset _ ps x = _
  rcases List.mem_cons.mp h with rfl | h
  · rw [mset_out hn.1, if_pos rfl]
  · exact mset_in hn.2 h
def setAll : List Nat → List V → Env → Env
 | k :: ks, v :: vs, ρ => setAll ks vs (setE k v ρ)
 | _, _, ρ => ρ
theorem getE_setAll {j : Nat} {w : V} : ∀ {ks : List Nat} {vs : List V} {ρ : Env}, ks.length = vs.length → getE j (setAll ks vs ρ) = some w → (∃ i : Nat, ks[i]? = some j ∧ vs[i]? = some w) ∨ (j ∉ ks ∧ getE j ρ = some w)
 | [], [], ρ, _, h => .inr ⟨by simp, h⟩
 | k :: ks, v :: vs, ρ, hl, h => by
  rcases getE_setAll (ks := ks) (vs := vs) (by simpa using hl) h with ⟨i, h1, h2⟩ | ⟨h1, h2⟩
  · exact .inl ⟨i + 1, by simpa using h1, by simpa using h2⟩
  · rcases getE_set k v ρ j w h2 with ⟨rfl, rfl⟩ | ⟨h3, h4⟩
    · exact .inl ⟨0, rfl, rfl⟩
    · exact .inr ⟨by simp [h1, h3], h4⟩
 | [], _ :: _, _, hl, _ => by simp at hl
 | _ :: _, [], _, hl, _ => by simp at hl
theorem aAll_names : ∀ {ks : List Nat} {vs : List V} {ρ : Env} {st : St}, (∀ j, aAll (ks.map aN) vs ρ st ≠ .bad j) → ks.length = vs.length ∧ aAll (ks.map aN) vs ρ st = .next (setAll ks vs ρ) st
 | [], [], _, _, _ => ⟨rfl, rfl⟩
 | [], _ :: _, _, _, h => absurd rfl (h 42)
 | _ :: _, [], _, _, h => absurd rfl (h 42)
 | k :: ks, v :: vs, ρ, st, h => by
  have e : aAll ((k :: ks).map aN) (v :: vs) ρ st = aAll (ks.map aN) vs (setE k v ρ) st := rfl
  rw [e] at h ⊢
  obtain ⟨h1, h2⟩ := aAll_names h
  exact ⟨by simp [h1], h2⟩
section
variable {S : Stage} {n : Nat} {sc : Scope} {ns : List (Option PySem.Str)}
theorem store_names {A : Around} {E : Value → Shared → Prop} {env : PySem.Env} {h₀ : Heap} {G D C : Led} {ad : List Addr} {st : St} (F : Fix S sc ns env h₀) : ∀ (ps : List (PySem.Str × Value)) {Q : Unit → Shared → Prop} {m : PySem.Str → Option Value} {s : Shared},
 (∀ p ∈ ps, sc.names.lookup p.1 = some .local) → Rel S ns env h₀ m G D C ad .nil st s → (∀ s', Rel S ns env h₀ (mset m ps) G D C ad .nil st s' → Q () s') →
 wpAny (model S.prog S.w) A (assignInOrder (ps.map fun p => bindName env p.1) (ps.map (·.2))) Q E s
 | [], Q, m, s, _, R, q => assignInOrder_nil (q _ R)
 | p :: ps, Q, m, s, hl, R, q => by
  have hkind : env.scope.kind = .function := by rw [F.esc]; exact F.kind
  have hloc : env.kindOf p.1 = some .local := (kindOf_eq F p.1).trans (hl p (.head _))
  refine assignInOrder_cons (wpAny_bindName (wpAny_storeName_local hloc R.fr.ns (fun h' hn hs => ?_) (by rw [hkind]; rfl)))
  exact store_names F ps (fun p' hp' => hl p' (.tail _ hp')) (R.storeNil hn hs (s.toks + 1)) q
theorem zip_get {xs : List PySem.Str} {cs : List Value} {i : Nat} {x : PySem.Str} {c : Value} (h1 : xs[i]? = some x) (h2 : cs[i]? = some c) : (x, c) ∈ xs.zip cs := lookup_zip h1 h2
theorem map_fst_zip' : ∀ {xs : List PySem.Str} {cs : List Value}, xs.length = cs.length → (xs.zip cs).map (·.1) = xs
 | [], [], _ => rfl
 | x :: xs, c :: cs, h => by simp only [List.zip_cons_cons, List.map_cons]; rw [map_fst_zip' (by simpa using h)]
 | [], _ :: _, h => by simp at h
 | _ :: _, [], h => by simp at h
theorem map_snd_zip' : ∀ {xs : List PySem.Str} {cs : List Value}, xs.length = cs.length → (xs.zip cs).map (·.2) = cs
 | [], [], _ => rfl
 | x :: xs, c :: cs, h => by simp only [List.zip_cons_cons, List.map_cons]; rw [map_snd_zip' (by simpa using h)]
 | [], _ :: _, h => by simp at h
 | _ :: _, [], h => by simp at h
theorem S1.asgTs {elts : List PySem.Expr} {x1} {tp pos : Pos} {value : PySem.Expr} {ks : List Nat} {xs : List PySem.Str} {d : DE} (hd : SE S n sc ns value d) (hlen : ks.length = xs.length) (hns : ∀ (i : Nat) k x, ks[i]? = some k → xs[i]? = some x → ns[k]? = some (some x)) (hloc : ∀ x ∈ xs, sc.names.lookup x = some .local) (hnd : xs.Nodup)
 (hw : ∀ env : PySem.Env, env.scope = sc → swappedStores [.Tuple elts x1 tp] value env = pure (some xs))
 (hs : ∀ env, swapsWith value (some (.Tuple elts x1 tp)) pos.line env = pure false := by intro _; rfl) : S1 S n sc ns (.Assign [.Tuple elts x1 tp] value pos) (Mine.asgT (ks.map aN) d) := ⟨fun {A E Q env h₀ m G D C ad ρ st s} hA F R hbad q => by
 obtain ⟨v, s1, e1, eq1⟩ := RS_ok hbad
 have eq1 : Mine.asgT (ks.map aN) d ρ st = _ := eq1
 rw [eq1] at q
 have hb1 : ∀ k, Mine.asgT (ks.map aN) d ρ st ≠ .bad k := hbad
 rw [eq1] at hb1
 obtain ⟨l, hl, eq2⟩ := onL_RS hb1
 rw [eq2] at q hb1
 obtain ⟨hkl, eq3⟩ := aAll_names hb1
 rw [eq3] at q
 rw [exec_AssignT (hs _)]
 refine wpAny_bind (wpAny_standAt (wpAny_bind (hd.go hA F R e1 fun s' G' D' ad' cv R1 g1 p1 r => ?_)))
 rw [hw env F.esc]
 refine wpAny_bind (wpAny_pure ?_)
 show wpAny _ _ (do rule "assign.swapped-stores"; let items ← unpackItems cv xs.length Option.none; assignInOrder (xs.reverse.map fun n => bindName env n) items.reverse; pure Flow.next) _ _ _
 refine wpAny_bind (wpAny_rule (wpAny_bind ?_))
 refine unpack_any hA F R1 r hl (by omega) fun s2 cs R2 rs => ?_
 have hcl : xs.length = cs.length := by rw [rs.length]; omega
 have e5 : xs.reverse.map (fun n => bindName env n) = ((xs.zip cs).reverse).map fun p => bindName env p.1 := by
  have e : xs.reverse = ((xs.zip cs).reverse).map (·.1) := by rw [List.map_reverse, map_fst_zip' hcl]
  rw [e, List.map_map]; rfl
 have e6 : cs.reverse = ((xs.zip cs).reverse).map (·.2) := by rw [List.map_reverse, map_snd_zip' hcl]
 have hnd' : (((xs.zip cs).reverse).map (·.1)).Nodup := by rw [List.map_reverse, map_fst_zip' hcl]; exact List.pairwise_reverse.mpr (hnd.imp fun h => Ne.symm h)
 rw [e5, e6]
 have hmem : ∀ p ∈ (xs.zip cs).reverse, p.1 ∈ xs := fun p hp => by
  have := List.mem_map_of_mem (f := fun p : PySem.Str × Value => p.1) (List.mem_reverse.mp hp)
  rw [map_fst_zip' hcl] at this
  exact this
 refine wpAny_bind (store_names F _ (fun p hp => hloc p.1 (hmem p hp)) R2.noEnv fun s3 R3 => wpAny_pure (q _ _ ?_))
 refine ⟨rfl, mset m (xs.zip cs).reverse, G', D', C, ad', ?_, g1, p1, rfl⟩
 refine ⟨R3.fr, R3.nw, R3.gd, R3.nod, R3.hp, fun j w y hj hy => ?_, R3.gens, R3.drawn, R3.os, R3.cl⟩
 rcases getE_setAll hkl hj with ⟨i, h1, h2⟩ | ⟨h1, h2⟩
 · obtain ⟨c, hc, rc⟩ := rs.get h2
   have hi : i < xs.length := by have := (List.getElem?_eq_some_iff.mp h1).1; omega
   have hx : xs[i]? = some xs[i] := by simp [hi]
   have := hns i j _ h1 hx
   rw [this] at hy
   cases hy
   refine ⟨c, .inl ⟨(kindOf_eq F _).trans (hloc _ (List.getElem_mem hi)), mset_in hnd' (List.mem_reverse.mpr (zip_get hx hc))⟩, rc⟩
 · obtain ⟨c, va, rc⟩ := R2.er j w y h2 hy
   refine ⟨c, ?_, rc⟩
   rcases va with ⟨a, b⟩ | a
   · refine .inl ⟨a, (mset_out ?_).trans b⟩
     rw [List.map_reverse, map_fst_zip' hcl, List.mem_reverse]
     intro hm
     obtain ⟨i, hi, ei⟩ := List.getElem_of_mem hm
     have hk : i < ks.length := by omega
     have := hns i ks[i] y (by simp [hk]) (by rw [List.getElem?_eq_getElem hi, ei])
     have := F.ninj _ _ y this hy
     exact h1 (this ▸ List.getElem_mem hk)
   · exact .inr a⟩
end
end
end Mine
end
section
namespace Mine
open PySem PySem.W PySem.Calls PyProof.Rows
noncomputable section
section
variable {S : Stage} {n : Nat} {sc : Scope} {ns : List (Option PySem.Str)}
section
variable {env : PySem.Env} {h₀ : Heap} {m : PySem.Str → Option Value} {G D C : Led} {ad : List Addr} {ρ : Env} {st : St} {s : Shared}
theorem Rel.addC (R : Rel S ns env h₀ m G D C ad ρ st s) (o : Obj) (hf : o.isFreed = false) : Rel S ns env h₀ m G D (C ++ [(s.heap.objs.size, o)]) ad ρ st { s with heap := s.heap.push o } := by
 have hL : env.locals < s.heap.objs.size := R.fr.ns.lt
 have N := News.push R.fr R.nw o hf
 have key : ∀ p ∈ G ++ (D ++ (C ++ [(s.heap.objs.size, o)])), p = (s.heap.objs.size, o) ∨ p ∈ G ++ (D ++ C) := fun p hp => by
  simp only [List.mem_append, List.mem_cons, List.not_mem_nil, or_false] at hp ⊢
  rcases hp with h | h | h | h <;> simp [h]
 refine ⟨R.fr.push _, fun p hp => ?_, fun p hp q hq => ?_, ?_, R.hp, fun k v x e f => ?_, R.gens, R.drawn, R.os, fun x c hx => ?_⟩
 · rcases key p hp with h | h
   · exact N p (h ▸ .head _)
   · exact N p (.tail _ h)
 · rcases key q (List.mem_append_right _ hq) with h | h
   · rw [h]; exact Nat.ne_of_lt (R.lt p (List.mem_append_left _ hp))
   · simp only [List.mem_append, List.mem_cons, List.not_mem_nil, or_false] at hq
     rcases hq with h2 | h2 | h2
     · exact R.gd p hp q (List.mem_append_left _ h2)
     · exact R.gd p hp q (List.mem_append_right _ h2)
     · rw [h2]; exact Nat.ne_of_lt (R.lt p (List.mem_append_left _ hp))
 · rw [← List.append_assoc, List.map_append, List.nodup_append]
   refine ⟨R.nod, by simp, fun a ha b hb => ?_⟩
   obtain ⟨p, hp, rfl⟩ := List.mem_map.mp ha
   simp only [List.map_cons, List.map_nil, List.mem_cons, List.not_mem_nil, or_false] at hb
   rw [hb]
   exact Nat.ne_of_lt (R.lt p (List.mem_append_right _ hp))
 · obtain ⟨cv, va, r⟩ := R.er k v x e f
   refine ⟨cv, ?_, r⟩
   rcases va with a | ⟨a, c, o', h1, h2, h3⟩
   · exact .inl a
   · exact .inr ⟨a, c, o', h1, List.mem_append_left _ h2, h3⟩
 · obtain ⟨o', v, h1, h2⟩ := R.cl x c hx
   exact ⟨o', v, List.mem_append_left _ h1, h2⟩
theorem Rel.dropC {d : Addr} {o : Obj} (R : Rel S ns env h₀ m G D (C ++ [(d, o)]) ad ρ st s) (hd : ∀ v, o.data ≠ .cell v) : Rel S ns env h₀ m G D C ad ρ st s := by
 have sub : ∀ p ∈ D ++ C, p ∈ D ++ (C ++ [(d, o)]) := fun p hp => by
  simp only [List.mem_append] at hp ⊢
  rcases hp with h | h <;> simp [h]
 have nod := R.nod
 rw [← List.append_assoc, List.map_append, List.nodup_append] at nod
 refine ⟨R.fr, fun p hp => R.nw p ?_, fun p hp q hq => R.gd p hp q (sub q hq), nod.1, R.hp, fun k v x e f => ?_, R.gens, R.drawn, R.os, fun x c hx => ?_⟩
 · rcases List.mem_append.mp hp with h | h
   · exact List.mem_append_left _ h
   · exact List.mem_append_right _ (sub p h)
 · obtain ⟨cv, va, r⟩ := R.er k v x e f
   refine ⟨cv, ?_, r⟩
   rcases va with a | ⟨a, c, o', h1, h2, h3⟩
   · exact .inl a
   · rcases List.mem_append.mp h2 with h | h
     · exact .inr ⟨a, c, o', h1, h, h3⟩
     · have : (c, o') = (d, o) := by simpa using h
       cases this
       exact absurd h3 (hd _)
 · obtain ⟨o', v, h1, h2⟩ := R.cl x c hx
   rcases List.mem_append.mp h1 with h | h
   · exact ⟨o', v, h, h2⟩
   · have : (c, o') = (d, o) := by simpa using h
     cases this
     exact absurd h2 (hd _)
theorem Rel.lastC {d : Addr} {o : Obj} (R : Rel S ns env h₀ m G D (C ++ [(d, o)]) ad ρ st s) : (∀ p ∈ G ++ (D ++ C), p.1 ≠ d) ∧ d ≠ env.locals ∧ s.heap.get? d = some o ∧ h₀.get? d = none := by
 have nod := R.nod
 rw [← List.append_assoc, List.map_append, List.nodup_append] at nod
 have h1 := R.nw (d, o) (by simp)
 refine ⟨fun p hp => ?_, h1.2.1, h1.1, h1.2.2⟩
 rcases List.mem_append.mp hp with h | h
 · exact R.gd p h (d, o) (by simp)
 · exact nod.2.2 _ (List.mem_map_of_mem h) _ (by simp)
end
inductive Rps (S : Stage) (G : Led) (ad : List Addr) : List V → List V → List (Value × Value) → Prop
 | nil : Rps S G ad [] [] []
 | cons {k v ck cv ks vs ps} : Rv S G ad k ck → Rv S G ad v cv → Rps S G ad ks vs ps → Rps S G ad (k :: ks) (v :: vs) ((ck, cv) :: ps)
def SDs (S : Stage) (n : Nat) (sc : Scope) (ns : List (Option PySem.Str)) (keys : List (Option PySem.Expr)) (values : List PySem.Expr) (ks : List V) (ds : List DE) : Prop :=
 (keys.all (·.isSome) = true ∧ keys.length = values.length) ∧
 ∀ {A : Around} {E : Value → Shared → Prop} {Q : List (Value × Value) → Shared → Prop} {env h₀ m G D C ad ρ st s vs st' pos}, Room n A → Fix S sc ns env h₀ → Rel S ns env h₀ m G D C ad ρ st s → evs ds ρ st = .ok vs st' →
  (∀ s' G' D' ad' ps, Rel S ns env h₀ m G' D' C ad' ρ st' s' → G ⊆ G' → ad <+: ad' → Rps S G' ad' ks vs ps → Q ps s') → wpAny (model S.prog S.w) A (evalPairs (pairTrees keys values env pos)) Q E s
theorem SDs.nil : SDs S n sc ns [] [] [] [] := ⟨⟨rfl, rfl⟩, fun hA F R h q => by
 cases h
 exact pairTrees_nil_walk (q _ _ _ _ _ R (List.Subset.refl _) (List.prefix_refl _) .nil)⟩
theorem SDs.cons {k v : PySem.Expr} {keys : List (Option PySem.Expr)} {values : List PySem.Expr} {kv : V} {ks : List V} {d : DE} {ds : List DE} (h1 : SE S n sc ns k (cst kv)) (h2 : SE S n sc ns v d) (h3 : SDs S n sc ns keys values ks ds) : SDs S n sc ns (some k :: keys) (v :: values) (kv :: ks) (d :: ds) :=
 ⟨⟨by simpa using h3.1.1, by simpa using h3.1.2⟩, fun {A E Q env h₀ m G D C ad ρ st s vs st' pos} hA F R h q => by
  obtain ⟨x, s1, e1, h4⟩ := R_ok h
  obtain ⟨xs, s2, e2, h5⟩ := R_ok h4
  cases h5
  refine pairTrees_cons_walk (h1.go hA F R rfl fun s' G' D' ad' ck R1 g1 p1 rk => h2.go hA F R1 e1 fun s'' G'' D'' ad'' cv R2 g2 p2 rv => h3.2 hA F R2 e2 fun s3 G3 D3 ad3 ps R3 g3 p3 rp => ?_)
  exact q _ _ _ _ _ R3 (List.Subset.trans g1 (List.Subset.trans g2 g3)) (p1.trans (p2.trans p3)) (.cons (rk.mono (List.Subset.trans g2 g3) (p2.trans p3)) (rv.mono g3 p3) rp)⟩
theorem pairUp_cons {k v : V} {ks vs : List V} {d d' : List (V × V)} (h : pairUp (k :: ks) (v :: vs) d = .at d') : ∃ d1, dputC k v d = .at d1 ∧ pairUp ks vs d1 = .at d' := by
 have h : (OL.rec .no (fun d => pairUp ks vs d) (dputC k v d) : OL (List (V × V))) = .at d' := h
 cases q : dputC k v d with
 | no => rw [q] at h; cases h
 | «at» d1 => rw [q] at h; exact ⟨d1, rfl, h⟩
theorem store_all {A : Around} {E : Value → Shared → Prop} {env : PySem.Env} {h₀ : Heap} {m : PySem.Str → Option Value} {G D C : Led} {ad : List Addr} {ρ : Env} {st : St} {d : Addr} (hL : d ≠ env.locals) (h0 : h₀.get? d = none) (hn : ∀ p ∈ G ++ (D ++ C), p.1 ≠ d) :
 ∀ {ps : List (Value × Value)} {ks vs : List V} {l l' : List (V × V)} {es : List DictEntry} {nn : Nat} {s : Shared} {Q : PUnit → Shared → Prop}, Rps S G ad ks vs ps → pairUp ks vs l = .at l' → Rel S ns env h₀ m G D C ad ρ st s → s.heap.get? d = some (dictOf es nn) → Rds S G ad l es →
 (∀ s' es' n', Rel S ns env h₀ m G D C ad ρ st s' → s'.heap.get? d = some (dictOf es' n') → Rds S G ad l' es' → Q PUnit.unit s') → wpAny (model S.prog S.w) A (storeAll d ps) Q E s := by
 intro ps ks vs l l' es nn s Q rp
 induction rp generalizing l es nn s with
 | nil =>
  intro h R hd rd q
  cases h
  exact wpAny_pure (q s es nn R hd rd)
 | cons rk rv rp ih =>
  intro h R hd rd q
  obtain ⟨d1, h1, h2⟩ := pairUp_cons h
  unfold storeAll
  rw [List.forIn_cons]
  refine wpAny_bind (wpAny_bind (dict_set rd h1 rk rv hd fun h' es' n' hd' rd' hs' => wpAny_pure ?_))
  have R1 : Rel S ns env h₀ m G D C ad ρ st { s with heap := h', toks := s.toks + 1 } := (R.off hL h0 hn fun b o hb e => (hs'.2 b hb).trans e).toks _
  exact ih h2 R1 hd' rd' q
theorem display {A : Around} {E : Value → Shared → Prop} {Q : Value → Shared → Prop} {env : PySem.Env} {h₀ : Heap} {m : PySem.Str → Option Value} {G D C : Led} {ad : List Addr} {ρ : Env} {st st' : St} {s : Shared} {keys : List (Option PySem.Expr)} {values : List PySem.Expr} {ks vs : List V} {ds : List DE} {pos : Pos} {l : List (V × V)}
 (hA : Room n A) (F : Fix S sc ns env h₀) (R : Rel S ns env h₀ m G D C ad ρ st s) (hd : SDs S n sc ns keys values ks ds) (hk : keys ≠ []) (hl : keys.length ≤ 15) (e1 : evs ds ρ st = .ok vs st') (e2 : pairUp ks vs [] = .at l)
 (q : ∀ s' G' D' ad' d es nn, Rel S ns env h₀ m G' D' C ad' ρ st' s' → G ⊆ G' → ad <+: ad' → d ≠ env.locals → h₀.get? d = none → (∀ p ∈ G' ++ (D' ++ C), p.1 ≠ d) → s'.heap.get? d = some (dictOf es nn) → Rds S G' ad' l es → Q (.ref d) s') :
 wpAny (model S.prog S.w) A (eval (.Dict keys values pos) env) Q E s := by
 refine wpAny_Dict_any hd.1.1 hd.1.2 hk hl ?_
 have R1 := R.addC { cls := .type "dict", data := .dict #[] } rfl
 refine hd.2 hA F R1 e1 fun s2 G2 D2 ad2 ps R2 g2 p2 rp => ?_
 obtain ⟨c1, c2, c3, c4⟩ := R2.lastC
 have R3 := R2.dropC (fun v h => by cases h)
 refine store_all c2 c4 c1 rp e2 R3 (es := []) (nn := 0) c3 .nil fun s3 es n' R4 hd4 rd4 => ?_
 exact q _ _ _ _ _ _ _ R4 g2 p2 c2 c4 c1 hd4 rd4
theorem SE.dctV {keys : List (Option PySem.Expr)} {values : List PySem.Expr} {ks : List V} {ds : List DE} {pos : Pos} (hd : SDs S n sc ns keys values ks ds) (hk : keys ≠ []) (hl : keys.length ≤ 15) : SE S n sc ns (.Dict keys values pos) (dctV ks ds) := ⟨fun hA F R h q => by
 obtain ⟨vs, s1, e1, h1⟩ := R_ok h
 obtain ⟨l, e2, h2⟩ := ol_ok h1
 cases h2
 refine display hA F R hd hk hl e1 e2 fun s' G' D' ad' d es nn R1 g1 p1 hL h0 hn hd1 rd => ?_
 exact q _ _ _ _ _ (R1.add hd1 hL h0 fun p hp => Ne.symm (hn p (List.mem_append_right _ hp))) (List.Subset.trans g1 (List.subset_cons_self _ _)) p1 (.dct _ es _ nn (.inl (.head _)) (rd.mono (List.subset_cons_self _ _) (List.prefix_refl _)))⟩
theorem SE.dctE {keys : List (Option PySem.Expr)} {values : List PySem.Expr} {ks : List V} {ds : List DE} {pos : Pos} (hd : SDs S n sc ns keys values ks ds) (hk : keys ≠ []) (hl : keys.length ≤ 15) : SE S n sc ns (.Dict keys values pos) (Mine.dctE ks ds) := ⟨fun {A E Q env h₀ m G D C ad ρ st s v st'} hA F R h q => by
 obtain ⟨vs, s1, e1, h1⟩ := R_ok h
 obtain ⟨l, e2, h2⟩ := ol_ok h1
 obtain ⟨rfl, rfl, hat⟩ := new_ok h2
 refine display hA F R hd hk hl e1 e2 fun s' G' D' ad' d es nn R1 g1 p1 hL h0 hn hd1 rd => ?_
 have R2 := R1.push (a := d) (d := d) (o := .dict l) (ob := dictOf es nn) (h' := s'.heap) (G' := G') s'.toks R1.fr (fun p hp => ?_) (List.Subset.refl _) (fun p hp => hn p (List.mem_append_right _ hp)) (fun p hp => ⟨hn p (List.mem_append_left _ hp), R1.gd p hp⟩) hat (.dict _ _ _ _ (rd.mono (List.Subset.refl _) (List.prefix_append _ _)))
 · refine q _ _ _ _ _ R2 g1 (p1.trans (List.prefix_append _ _)) (.ref _ _ ?_)
   have := R1.hp
   rw [this.1, ← this.2.1]
   simp
 · have hp : p ∈ G' ∨ p = (d, dictOf es nn) ∨ p ∈ D' ++ C := by
    rcases List.mem_append.mp hp with h | h
    · exact .inl h
    · rcases List.mem_cons.mp h with h | h
      · exact .inr (.inl h)
      · exact .inr (.inr h)
   rcases hp with h | rfl | h
   · exact R1.nw p (List.mem_append_left _ h)
   · exact ⟨hd1, hL, h0⟩
   · exact R1.nw p (List.mem_append_right _ h)⟩
end
end
end Mine
end
section
namespace Mine
open PySem PySem.W PySem.Calls PyProof.Rows
noncomputable section
def fill {α : Type} {β : Type} (f : β → α) : List (Option β) → List α → List α
 | none :: r, d :: ds => d :: fill f r ds
 | some v :: r, ds => f v :: fill f r ds
 | _, _ => []
def holes {β : Type} : List (Option β) → Nat
 | [] => 0
 | none :: r => holes r + 1
 | some _ :: r => holes r
theorem evs_cons_ok {d : DE} {ds : List DE} {ρ : Env} {st st' : St} {vs : List V} (h : evs (d :: ds) ρ st = .ok vs st') : ∃ v s1 ws, d ρ st = .ok v s1 ∧ evs ds ρ s1 = .ok ws st' ∧ vs = v :: ws := by
 obtain ⟨v, s1, e1, h1⟩ := R_ok h
 obtain ⟨ws, s2, e2, h2⟩ := R_ok h1
 cases h2
 exact ⟨v, s1, ws, e1, e2, rfl⟩
theorem evs_fill : ∀ {pat : List (Option V)} {ds : List DE} {ρ : Env} {st st' : St} {vs : List V}, holes pat = ds.length → evs (fill cst pat ds) ρ st = .ok vs st' → ∃ ws, evs ds ρ st = .ok ws st' ∧ vs = fill id pat ws
 | [], [], _, _, _, _, _, h => by cases h; exact ⟨[], rfl, rfl⟩
 | none :: r, d :: ds, ρ, st, st', vs, hl, h => by
  obtain ⟨v, s1, ws, e1, e2, rfl⟩ := evs_cons_ok h
  obtain ⟨us, e3, rfl⟩ := evs_fill (pat := r) (ds := ds) (by simp [holes] at hl; exact hl) e2
  exact ⟨v :: us, evs_more e1 e3, rfl⟩
 | some x :: r, ds, ρ, st, st', vs, hl, h => by
  have h : evs (cst x :: fill cst r ds) ρ st = .ok vs st' := by cases ds <;> exact h
  obtain ⟨v, s1, ws, e1, e2, rfl⟩ := evs_cons_ok h
  cases e1
  obtain ⟨us, e3, rfl⟩ := evs_fill (pat := r) (ds := ds) (by simp [holes] at hl; exact hl) e2
  exact ⟨us, e3, by cases us <;> rfl⟩
 | none :: r, [], _, _, _, _, hl, _ => by simp [holes] at hl
 | [], _ :: _, _, _, _, _, hl, _ => by simp [holes] at hl
theorem evs_append : ∀ {as bs : List DE} {ρ : Env} {st st' : St} {vs : List V}, evs (as ++ bs) ρ st = .ok vs st' → ∃ us ws s1, evs as ρ st = .ok us s1 ∧ evs bs ρ s1 = .ok ws st' ∧ vs = us ++ ws
 | [], bs, ρ, st, st', vs, h => ⟨[], vs, st, rfl, h, rfl⟩
 | a :: as, bs, ρ, st, st', vs, h => by
  obtain ⟨v, s1, xs, e1, e2, rfl⟩ := evs_cons_ok (ds := as ++ bs) h
  obtain ⟨us, ws, s2, e3, e4, rfl⟩ := evs_append e2
  exact ⟨v :: us, ws, s2, evs_more e1 e3, e4, rfl⟩
section
variable {S : Stage} {n : Nat} {sc : Scope} {ns : List (Option PySem.Str)}
inductive Rpat (S : Stage) : List (Option V) → List (Option Value) → Prop
 | nil : Rpat S [] []
 | hole {p q} : Rpat S p q → Rpat S (none :: p) (none :: q)
 | val {v c p q} : Rv S [] [] v c → Rpat S p q → Rpat S (some v :: p) (some c :: q)
theorem Rvs.fill {G : Led} {ad : List Addr} : ∀ {p : List (Option V)} {q : List (Option Value)} {l : List V} {cs : List Value}, Rpat S p q → Rvs S G ad l cs → Rvs S G ad (fill id p l) (fill id q cs) := by
 intro p q l cs rp
 induction rp generalizing l cs with
 | nil => exact fun zz => .nil
 | hole r ih =>
  intro z
  cases z with
  | nil => exact .nil
  | cons a t => exact .cons a (ih t)
 | val v r ih =>
  intro z
  cases z with
  | nil => exact .cons (v.mono (List.nil_subset _) List.nil_prefix) (ih .nil)
  | cons a t => exact .cons (v.mono (List.nil_subset _) List.nil_prefix) (ih (.cons a t))
def SK (S : Stage) (n : Nat) (sc : Scope) (ns : List (Option PySem.Str)) (kws : List Keyword) (names : List PySem.Str) (ds : List DE) : Prop :=
 (∀ env pos, (backToKw pos (keywordEach kws env)).all (·.1.isSome) = true ∧ (backToKw pos (keywordEach kws env)).any (·.1.isNone) = false ∧ (backToKw pos (keywordEach kws env)).filterMap (·.1) = names) ∧
 ∀ {A : Around} {E : Value → Shared → Prop} {Q : List Value → Shared → Prop} {env h₀ m G D C ad ρ st s vs st' pos}, Room n A → Fix S sc ns env h₀ → Rel S ns env h₀ m G D C ad ρ st s → evs ds ρ st = .ok vs st' →
  (∀ s' G' D' ad' cs, Rel S ns env h₀ m G' D' C ad' ρ st' s' → G ⊆ G' → ad <+: ad' → Rvs S G' ad' vs cs → Q cs s') →
  wpAny (model S.prog S.w) A (evalAll ((backToKw pos (keywordEach kws env)).map (·.2))) Q E s
theorem SK.nil : SK S n sc ns [] [] [] := ⟨fun zz zz => ⟨rfl, rfl, rfl⟩, fun zz zz R h q => by
 cases h
 exact kwAll_nil (q _ _ _ _ _ R (List.Subset.refl _) (List.prefix_refl _) .nil)⟩
theorem SK.cons {x : PySem.Str} {e : PySem.Expr} {p : Pos} {kws : List Keyword} {names : List PySem.Str} {d : DE} {ds : List DE} (h1 : SE S n sc ns e d) (h2 : SK S n sc ns kws names ds) : SK S n sc ns (⟨some x, e, p⟩ :: kws) (x :: names) (d :: ds) :=
 ⟨fun env pos => by
  obtain ⟨a, b, c⟩ := h2.1 env pos
  have e0 : backToKw pos (keywordEach (⟨some x, e, p⟩ :: kws) env) = (some x, do let v ← eval e env; standAt pos; pure v) :: backToKw pos (keywordEach kws env) := rfl
  rw [e0]
  exact ⟨by simpa using a, by simpa using b, by simp [c]⟩, fun hA F R h q => by
  obtain ⟨v, s1, ws, e1, e2, rfl⟩ := evs_cons_ok h
  exact kwAll_cons (h1.go hA F R e1 fun s' G' D' ad' cv R1 g1 p1 r1 => h2.2 hA F R1 e2 fun s'' G'' D'' ad'' cs R2 g2 p2 r2 => q _ _ _ _ _ R2 (List.Subset.trans g1 g2) (p1.trans p2) (.cons (r1.mono g2 p2) r2))⟩
theorem SE.mkD {x : PySem.Str} {p pos : Pos} {e0 : PySem.Expr} {es : List PySem.Expr} {kws : List Keyword} {names : List PySem.Str} {ds1 ds2 : List DE} {pat : List (Option V)} {patC : List (Option Value)} {c mm : Nat} {Fd : DF} (X : Mk S n c Fd) (hpat : Rpat S pat patC) (hh : holes pat = (ds1 ++ ds2).length)
 (hb : ∀ f x (cs ks : List Value), findIn S.K (.ref (S.cls c)) "__init__" = some (some (.ref f)) → cs.length = ds1.length → ks.length = ds2.length → Binds S f ⟨.ref x :: cs, names.zip ks⟩ (.ref x :: fill id patC (cs ++ ks)))
 (hs : SEs S (n + 1) sc ns (e0 :: es) ds1) (hk : SK S (n + 1) sc ns kws names ds2) (e : nsIn S.K mainGlobals x = some (some (.ref (S.cls c)))) (hsc : sc.names.lookup x = some .globalImplicit)
 (hd : (x == ("__debug__" : PySem.Str)) = false) (hp : ∀ env pos, (backTo pos (starEach (e0 :: es) env)).any (·.1) = false) (hst : ∀ env, starEach (e0 :: es) env = (false, eval e0 env) :: starEach es env)
 (he : ∀ env, eval (.Call (.Name x p) (e0 :: es) kws pos) env = (do callWith pos (← eval (.Name x p) env) [] (backTo pos (starEach (e0 :: es) env)) (backToKw pos (keywordEach kws env)))) :
 SE S (n + 1) sc ns (.Call (.Name x p) (e0 :: es) kws pos) (Mine.mk c mm Fd (Mine.fill cst pat (ds1 ++ ds2))) := ⟨fun hA F R h q => by
 obtain ⟨vs, s1, s2, e1, e2, e3⟩ := mk_ok h
 obtain ⟨ws, e4, rfl⟩ := evs_fill hh e1
 obtain ⟨us, xs, s3, e5, e6, rfl⟩ := evs_append e4
 have l1 := evs_length e5
 have l2 := evs_length e6
 obtain ⟨k1, k2, k3⟩ := hk.1 _ pos
 rw [he]
 refine wpAny_bind (name_glob F R hsc e hd ?_)
 refine callWith_of (by rw [hp, k2]; rfl) (keeps_K X.keep) ?_
 refine evalArgs_kw2 (kws := kws) k1 ?_ (hst _)
 refine hs.go hA F R e5 fun s' G' D' ad' cs R1 g1 p1 r => ?_
 refine hk.2 hA F R1 e6 fun s'' G'' D'' ad'' ks R2 g2 p2 rk => ⟨F.kin.keeps R2.fr.keep, ?_⟩
 rw [k3]
 refine wpAny_call (make_it hA F R2 X (fun f x hf => hb f x cs ks hf (by rw [r.length, l1]) (by rw [rk.length, l2])) (Rvs.fill hpat ((r.mono g2 p2).append rk)) e2 e3 fun s4 G4 D4 ad4 cv R3 g3 p3 r3 => ?_)
 exact q _ _ _ _ _ R3 (List.Subset.trans g1 (List.Subset.trans g2 g3)) (p1.trans (p2.trans p3)) r3⟩
theorem S1.try_ {body : List Stmt} {h₁ : ExceptHandler} {hs : List ExceptHandler} {pos : Pos} {d : DS} (hb : SS S n sc ns body d) : S1 S n sc ns (.Try body (h₁ :: hs) [] [] pos) d := ⟨fun hA F R hbad q => by
 refine wpAny_Try_except (hb.go hA F R hbad fun fl s1 hp => ?_)
 cases fl with
 | next => exact wpAny_execs_nil (q _ _ hp)
 | _ => exact q _ _ hp⟩
theorem rep_eq (l : List V) : ∀ k : Nat, (Nat.rec .nil (fun zz ih => app l ih) k : List V) = (List.replicate k l).flatten
 | 0 => rfl
 | k + 1 => by
  show app l (Nat.rec .nil (fun zz ih => app l ih) k) = _
  rw [rep_eq l k, app_eq, List.replicate_succ, List.flatten_cons]
theorem Rvs.rep {G : Led} {ad : List Addr} {l : List V} {cs : List Value} (r : Rvs S G ad l cs) : ∀ k : Nat, Rvs S G ad (List.replicate k l).flatten (List.replicate k cs).flatten
 | 0 => .nil
 | k + 1 => by
  rw [List.replicate_succ, List.flatten_cons, List.replicate_succ, List.flatten_cons]
  exact r.append (Rvs.rep r k)
theorem foldl_rep (cs : List Value) : ∀ (k : Nat) (acc : Array Value), (List.foldl (fun x1 x2 => x1 ++ x2) acc (List.replicate k cs.toArray)) = acc ++ ((List.replicate k cs).flatten).toArray
 | 0, acc => by simp
 | k + 1, acc => by
  rw [List.replicate_succ, List.foldl_cons, foldl_rep cs k, List.replicate_succ, List.flatten_cons]
  simp
theorem SE.rep {e : PySem.Expr} {a : DE} {k j : Nat} {p pos : Pos} (ha : SE S n sc ns e a) (hk : k ≤ 1000) : SE S n sc ns (.BinOp e .Mult (.Constant (.int (k : Int)) j p) pos) (Mine.rep a k) := ⟨fun {A E Q env h₀ m G D C ad ρ st s v st'} hA F R h q => by
 obtain ⟨x, s1, e1, h1⟩ := R_ok h
 have hx : ∃ l, x = .lst l := by cases x <;> first | exact ⟨_, rfl⟩ | cases h1
 obtain ⟨l, rfl⟩ := hx
 obtain ⟨hl, h2⟩ := bt_ok h1
 cases h2
 have hl4 : l.length ≤ 64 := by have := Nat.le_of_ble_eq_true hl; rwa [len_eq] at this
 refine wpAny_BinOp (ha.go hA F R e1 fun s' G' D' ad' cx R1 g1 p1 rx => (SE.int (S := S) (n := n) (sc := sc) (ns := ns)).go hA F R1 rfl fun s'' G'' D'' ad'' cy R2 g2 p2 ry => ?_)
 have rx2 := rx.mono g2 p2
 apply Rv.eint ry; intro t
 apply Rv.elst rx2; intro vs al nn o rs
 have hvl := rs.length
 refine mul_list (k := nn) R2.fr R2.nw (R2.obs F o) (by omega) (by omega) (by simp only [List.size_toArray]; rw [hvl, Int.toNat_natCast]; have : l.length * k ≤ 64 * 1000 := Nat.mul_le_mul hl4 hk; omega) fun h' F' N' => ?_
 have ef : (List.foldl (fun x1 x2 => x1 ++ x2) #[] (List.replicate (if vs.toArray.isEmpty = true then 0 else ((k : Nat) : Int).toNat) vs.toArray)) = ((List.replicate k vs).flatten).toArray := by
  rw [foldl_rep]
  by_cases he : vs.toArray.isEmpty = true
  · rw [if_pos he]
    have : vs = [] := by simpa using he
    subst this
    simp
  · rw [if_neg he, Int.toNat_natCast]; simp
 rw [ef] at N'
 have R3 := R2.more s''.toks F' N' R2.lt
 refine q _ _ _ _ _ R3 (List.Subset.trans g1 (List.Subset.trans g2 (List.subset_cons_self _ _))) (p1.trans p2) (.lst _ _ _ 0 (.inl (.head _)) ?_)
 rw [rep_eq]
 exact (rs.rep k).mono (List.subset_cons_self _ _) (List.prefix_refl _)⟩
theorem SE.dctV0 {pos : Pos} : SE S n sc ns (.Dict [] [] pos) (Mine.dctV [] []) := ⟨fun hA F R h q => by
 cases h
 refine wpAny_Dict_empty ?_
 exact q _ _ _ _ _ (R.more _ (R.fr.push { cls := .type "dict", data := .dict #[] }) (News.push R.fr R.nw _) R.lt) (List.subset_cons_self _ _) (List.prefix_refl _) (.dct [] [] _ 0 (.inl (.head _)) .nil)⟩
theorem SE.dctE0 {pos : Pos} : SE S n sc ns (.Dict [] [] pos) (Mine.dctE [] []) := ⟨fun {A E Q env h₀ m G D C ad ρ st s v st'} hA F R h q => by
 have h1 : new (.dict []) st = .ok v st' := h
 obtain ⟨rfl, rfl, hat⟩ := new_ok h1
 refine wpAny_Dict_empty ?_
 have N := News.push R.fr R.nw { cls := .type "dict", data := .dict #[] }
 have lt := R.lt
 have R2 := R.push (a := s.heap.objs.size) (d := s.heap.objs.size) (o := .dict []) (ob := dictOf [] 0) (h' := s.heap.push { cls := .type "dict", data := .dict #[] }) (G' := G) s.toks (R.fr.push _) (fun p hp => ?_) (List.Subset.refl _) (fun p hp => Nat.ne_of_lt (lt p (List.mem_append_right _ hp))) (fun p hp => ⟨Nat.ne_of_lt (lt p (List.mem_append_left _ hp)), R.gd p hp⟩) hat (.dict _ _ _ _ .nil)
 · refine q _ _ _ _ _ R2 (List.Subset.refl _) (List.prefix_append _ _) (.ref _ _ ?_)
   have := R.hp
   rw [this.1, ← this.2.1]
   simp
 · rcases List.mem_append.mp hp with h | h
   · exact N p (.tail _ (List.mem_append_left _ h))
   · rcases List.mem_cons.mp h with h | h
     · exact N p (h ▸ .head _)
     · exact N p (.tail _ (List.mem_append_right _ h))⟩
theorem SE.bad {e : PySem.Expr} {k : Nat} : SE S n sc ns e (badE k) := ⟨fun zz zz zz h zz => by cases h⟩
end
end
end Mine
end
section
namespace Mine
open PySem PySem.W PySem.Calls PyProof.Rows
noncomputable section
section
variable {S : Stage} {n : Nat} {sc scope : Scope} {ns : List (Option PySem.Str)}
abbrev NoSys (S : Stage) : Prop := ∀ es nn, S.K.lookup sysModules ≠ some (dictOf es nn)
structure Bn (S : Stage) (x : PySem.Str) (bv : Value) : Prop where
 hv : bootBuiltins x = some bv
 hr : ∀ a, bv ≠ .ref a
 hn : x ≠ "__name__"
 hx : (x == ("__debug__" : PySem.Str)) = false
 e : nsIn S.K mainGlobals x = some none
structure C1 (x : PySem.Str) (p : Pos) (e : PySem.Expr) (pos : Pos) : Prop where
 hp : ∀ env pos, (backTo pos (starEach [e] env)).any (·.1) = false
 st : ∀ env, starEach [e] env = (false, eval e env) :: starEach [] env
 he : ∀ env, eval (.Call (.Name x p) [e] [] pos) env = (do callWith pos (← eval (.Name x p) env) [] (backTo pos (starEach [e] env)) (backToKw pos (keywordEach [] env)))
structure C2 (x : PySem.Str) (p : Pos) (e f : PySem.Expr) (pos : Pos) : Prop where
 hp : ∀ env pos, (backTo pos (starEach [e, f] env)).any (·.1) = false
 st : ∀ env, starEach [e, f] env = (false, eval e env) :: starEach [f] env
 st2 : ∀ env, starEach [f] env = (false, eval f env) :: starEach [] env
 he : ∀ env, eval (.Call (.Name x p) [e, f] [] pos) env = (do callWith pos (← eval (.Name x p) env) [] (backTo pos (starEach [e, f] env)) (backToKw pos (keywordEach [] env)))
section
variable {x : PySem.Str} {p pos : Pos} {e f : PySem.Expr} {a b : DE}
theorem E.len {sl : Nat → OL Nat} (hsl : ∀ k n, sl k = .at n → (S.nm k).length = n ∧ n ≤ 4096) (B : Bn S x (.builtin "len")) (ha : SE S n sc ns e a) (hk : sc.names.lookup x = some .globalImplicit := by kernel_rfl) (C : C1 x p e pos := by exact ⟨fun zz zz => rfl, fun zz => rfl, fun zz => rfl⟩) : SE S n sc ns (.Call (.Name x p) [e] [] pos) (bLen sl a) :=
 SE.blt (blt_len hsl) (fun h => one_ev (f := lenF sl) h) (SEs.cons ha SEs.nil C.st) B.hv B.hr B.hn B.hx B.e hk C.hp C.he
theorem E.int (B : Bn S x (.type "int")) (ha : SE S n sc ns e a) (hk : sc.names.lookup x = some .globalImplicit := by kernel_rfl) (C : C1 x p e pos := by exact ⟨fun zz zz => rfl, fun zz => rfl, fun zz => rfl⟩) : SE S n sc ns (.Call (.Name x p) [e] [] pos) (bInt a) :=
 SE.blt blt_int (fun h => one_ev (f := intF) h) (SEs.cons ha SEs.nil C.st) B.hv B.hr B.hn B.hx B.e hk C.hp C.he
theorem E.bytes (B : Bn S x (.type "bytes")) (ha : SE S n sc ns e a) (hk : sc.names.lookup x = some .globalImplicit := by kernel_rfl) (C : C1 x p e pos := by exact ⟨fun zz zz => rfl, fun zz => rfl, fun zz => rfl⟩) : SE S n sc ns (.Call (.Name x p) [e] [] pos) (bBytes a) :=
 SE.blt blt_bytes (fun h => one_ev (f := bytesF) h) (SEs.cons ha SEs.nil C.st) B.hv B.hr B.hn B.hx B.e hk C.hp C.he
theorem E.sum (B : Bn S x (.builtin "sum")) (ha : SE S n sc ns e a) (hk : sc.names.lookup x = some .globalImplicit := by kernel_rfl) (C : C1 x p e pos := by exact ⟨fun zz zz => rfl, fun zz => rfl, fun zz => rfl⟩) : SE S n sc ns (.Call (.Name x p) [e] [] pos) (bSum a) :=
 SE.blt blt_sum (fun h => one_ev (f := sumF) h) (SEs.cons ha SEs.nil C.st) B.hv B.hr B.hn B.hx B.e hk C.hp C.he
theorem E.sorted (K : NoSys S) (B : Bn S x (.builtin "sorted")) (ha : SE S n sc ns e a) (hk : sc.names.lookup x = some .globalImplicit := by kernel_rfl) (C : C1 x p e pos := by exact ⟨fun zz zz => rfl, fun zz => rfl, fun zz => rfl⟩) : SE S n sc ns (.Call (.Name x p) [e] [] pos) (bSorted a) :=
 SE.blt (blt_sorted K) (fun h => one_ev (f := sortedF) h) (SEs.cons ha SEs.nil C.st) B.hv B.hr B.hn B.hx B.e hk C.hp C.he
theorem E.dict (K : NoSys S) (B : Bn S x (.type "dict")) (ha : SE S n sc ns e a) (hk : sc.names.lookup x = some .globalImplicit := by kernel_rfl) (C : C1 x p e pos := by exact ⟨fun zz zz => rfl, fun zz => rfl, fun zz => rfl⟩) : SE S n sc ns (.Call (.Name x p) [e] [] pos) (bDict a) :=
 SE.blt (blt_dict K) (fun h => one_ev (f := dictF) h) (SEs.cons ha SEs.nil C.st) B.hv B.hr B.hn B.hx B.e hk C.hp C.he
theorem E.max (B : Bn S x (.builtin "max")) (ha : SE S n sc ns e a) (hb : SE S n sc ns f b) (hk : sc.names.lookup x = some .globalImplicit := by kernel_rfl) (C : C2 x p e f pos := by exact ⟨fun zz zz => rfl, fun zz => rfl, fun zz => rfl, fun zz => rfl⟩) : SE S n sc ns (.Call (.Name x p) [e, f] [] pos) (bMax a b) :=
 SE.blt blt_max (fun h => two_ev (f := maxF) h) (SEs.cons ha (SEs.cons hb SEs.nil C.st2) C.st) B.hv B.hr B.hn B.hx B.e hk C.hp C.he
theorem E.min (B : Bn S x (.builtin "min")) (ha : SE S n sc ns e a) (hb : SE S n sc ns f b) (hk : sc.names.lookup x = some .globalImplicit := by kernel_rfl) (C : C2 x p e f pos := by exact ⟨fun zz zz => rfl, fun zz => rfl, fun zz => rfl, fun zz => rfl⟩) : SE S n sc ns (.Call (.Name x p) [e, f] [] pos) (bMin a b) :=
 SE.blt blt_min (fun h => two_ev (f := minF) h) (SEs.cons ha (SEs.cons hb SEs.nil C.st2) C.st) B.hv B.hr B.hn B.hx B.e hk C.hp C.he
theorem E.divmod (B : Bn S x (.builtin "divmod")) (ha : SE S n sc ns e a) (hb : SE S n sc ns f b) (hk : sc.names.lookup x = some .globalImplicit := by kernel_rfl) (C : C2 x p e f pos := by exact ⟨fun zz zz => rfl, fun zz => rfl, fun zz => rfl, fun zz => rfl⟩) : SE S n sc ns (.Call (.Name x p) [e, f] [] pos) (bDivmod a b) :=
 SE.blt blt_divmod (fun h => two_ev (f := divmodF) h) (SEs.cons ha (SEs.cons hb SEs.nil C.st2) C.st) B.hv B.hr B.hn B.hx B.e hk C.hp C.he
theorem I.r1 (B : Bn S x (.type "range")) (ha : SE S n sc ns e a) (hk : sc.names.lookup x = some .globalImplicit := by kernel_rfl) (C : C1 x p e pos := by exact ⟨fun zz zz => rfl, fun zz => rfl, fun zz => rfl⟩) : SI S n sc ns (.Call (.Name x p) [e] [] pos) (itR1 a) :=
 SI.range1 ha B.hv B.hn B.hx B.e hk C.hp C.st C.he
theorem I.r2 (B : Bn S x (.type "range")) (ha : SE S n sc ns e a) (hb : SE S n sc ns f b) (hk : sc.names.lookup x = some .globalImplicit := by kernel_rfl) (C : C2 x p e f pos := by exact ⟨fun zz zz => rfl, fun zz => rfl, fun zz => rfl, fun zz => rfl⟩) : SI S n sc ns (.Call (.Name x p) [e, f] [] pos) (itR2 a b) :=
 SI.range2 ha hb B.hv B.hn B.hx B.e hk C.hp C.st C.st2 C.he
theorem I.down {g h : PySem.Expr} (B : Bn S x (.type "range")) (ha : SE S n sc ns e a) (hf : SE S n sc ns g (cst (.int (-1)))) (hg : SE S n sc ns h (cst (.int (-1)))) (hk : sc.names.lookup x = some .globalImplicit)
 (hp : ∀ env pos, (backTo pos (starEach [e, g, h] env)).any (·.1) = false) (s1 : ∀ env, starEach [e, g, h] env = (false, eval e env) :: starEach [g, h] env) (s2 : ∀ env, starEach [g, h] env = (false, eval g env) :: starEach [h] env) (s3 : ∀ env, starEach [h] env = (false, eval h env) :: starEach [] env)
 (he : ∀ env, eval (.Call (.Name x p) [e, g, h] [] pos) env = (do callWith pos (← eval (.Name x p) env) [] (backTo pos (starEach [e, g, h] env)) (backToKw pos (keywordEach [] env)))) : SI S n sc ns (.Call (.Name x p) [e, g, h] [] pos) (itDown a) :=
 SI.down ha hf hg B.hv B.hn B.hx B.e hk hp s1 s2 s3 he
end
theorem ST.in {l r : PySem.Expr} {pos : Pos} {a b : DE} (K : NoSys S) (ha : SE S n sc ns l a) (hb : SE S n sc ns r b) (hm : behindInMarks .In r = false := by kernel_rfl) : ST S n sc ns (.Compare l [.In] [r] pos) (tin a b) := ⟨fun {A E Q env h₀ m G D C ad ρ st s r' st'} hA F R h q => by
 obtain ⟨x, y, s1, e1, e2, h3⟩ := tin_ok h
 refine wpAny_isTrue_Compare1 (ha.go hA F R e1 fun s' G' D' ad' cx R1 g1 p1 rx => hb.go hA F R1 e2 fun s'' G'' D'' ad'' cy R2 g2 p2 ry => ?_) hm
 have fin : ∀ t, wpAny (model S.prog S.w) A (PySem.truthy (.bool r')) Q E { s'' with toks := t } := fun t => wpAny_truthy_bool (q _ _ _ _ (R2.toks t) (List.Subset.trans g1 g2) (p1.trans p2))
 by_cases hy : ∃ l, y = .dct l
 · obtain ⟨l, rfl⟩ := hy
   rcases h3 with ⟨l, e, _⟩ | ⟨l, o, e, h4, rfl⟩ | ⟨i, l, o, e, _⟩
   · cases e
   · cases e
     apply Rv.edct ry; intro es aa nn ob rd
     exact in_dict (rx.mono g2 p2) rd h4 (R2.obs F ob) (Obs.sysNe K R2 F ob) (fin _)
   · cases e
 · exact in_rule hA F R2 (rx.mono g2 p2) ry h3 (fun l e => hy ⟨l, e⟩) fin⟩
theorem ninj_of {ns : List (Option PySem.Str)} (h : (ns.filterMap id).Nodup) : ∀ (i j : Nat) (x : PySem.Str), ns[i]? = some (some x) → ns[j]? = some (some x) → i = j := by
 induction ns with
 | nil => intro i j x h1; simp at h1
 | cons o ns ih =>
  have mem : ∀ (i : Nat) (x : PySem.Str), ns[i]? = some (some x) → x ∈ ns.filterMap id := fun i x e => List.mem_filterMap.mpr ⟨some x, List.mem_of_getElem? e, rfl⟩
  intro i j x h1 h2
  cases o with
  | none =>
   cases i with
   | zero => simp at h1
   | succ i => cases j with
    | zero => simp at h2
    | succ j => rw [ih (by simpa using h) i j x (by simpa using h1) (by simpa using h2)]
  | some y =>
   have h' : y ∉ ns.filterMap id ∧ (ns.filterMap id).Nodup := by simpa [List.filterMap_cons] using h
   cases i with
   | zero => cases j with
    | zero => rfl
    | succ j =>
     have : y = x := by simpa using h1
     subst this
     exact absurd (mem j y (by simpa using h2)) h'.1
   | succ i => cases j with
    | zero =>
     have : y = x := by simpa using h2
     subst this
     exact absurd (mem i y (by simpa using h1)) h'.1
    | succ j => rw [ih h'.2 i j x (by simpa using h1) (by simpa using h2)]
theorem cellsFrom_some {x : PySem.Str} : ∀ (l : List (PySem.Str × NameKind)) (k : Nat) (acc : List (PySem.Str × Addr)), ((x, NameKind.cell) ∈ l ∨ (acc.lookup x).isSome = true) → ((cellsFrom k l acc).lookup x).isSome = true
 | [], _, _, h => by
  rcases h with h | h
  · cases h
  · exact h
 | (y, kd) :: l, k, acc, h => by
  show ((if kd == .cell then cellsFrom (k + 1) l ((y, k) :: acc) else cellsFrom k l acc).lookup x).isSome = true
  by_cases hk : (kd == .cell) = true
  · rw [if_pos hk]
    refine cellsFrom_some l _ _ ?_
    rcases h with h | h
    · rcases List.mem_cons.mp h with h | h
      · cases h
        right
        rw [List.lookup_cons, show (x == x) = true from beq_self_eq_true x]; rfl
      · exact .inl h
    · right
      rw [List.lookup_cons]
      cases x == y with
      | true => rfl
      | false => exact h
  · rw [if_neg hk]
    refine cellsFrom_some l _ _ ?_
    rcases h with h | h
    · rcases List.mem_cons.mp h with h | h
      · cases h; exact absurd rfl hk
      · exact .inl h
    · exact .inr h
def okDef (ns : List (Option PySem.Str)) (sc : Scope) (ps : List PySem.Str) : Bool :=
 (sc.kind == .function) && !sc.isCoroutine && !sc.isGenerator && (ps.map some).isPrefixOf ns && decide ps.Nodup && decide (ns.filterMap id).Nodup &&
 (ns.filterMap id).all (fun x => !(x == ("__debug__" : PySem.Str)) && !(x == ("__classdict__" : PySem.Str))) && ps.all (fun x => sc.names.lookup x == some .local || sc.names.lookup x == some .cell) && decide ((cellsFrom 0 sc.names []).map (·.1)).Nodup
theorem Def.of {f : Addr} {body : List Stmt} {fd : FuncData} {o : Obj} (h1 : S.K.lookup f = some o) (h2 : o.data = .func fd) (h3 : fd.body = .stmts body) (h4 : fd.scope = sc) (h5 : fd.globals = mainGlobals) (h6 : fd.builtins = builtinsNs) (h7 : fd.closure = []) (h8 : codeIn S.K fd.code fd.qualname = true)
 (h : okDef ns sc (fd.params.args.map (·.arg)) = true) : Def S f ns sc body fd := by
 unfold okDef at h
 simp only [Bool.and_eq_true, decide_eq_true_eq, List.all_eq_true, Bool.or_eq_true, beq_iff_eq, Bool.not_eq_true', List.isPrefixOf_iff_prefix] at h
 obtain ⟨⟨⟨⟨⟨⟨⟨⟨a1, a2⟩, a3⟩, a4⟩, a5⟩, a6⟩, a7⟩, a8⟩, a9⟩ := h
 refine ⟨⟨o, h1, h2⟩, h3, h4, h5, h6, h7, h8, a1, a2, a3, ?_, a5, ninj_of a6, fun x hx => ?_, a8, fun x hx k => cellsFrom_some _ _ _ (.inl (lookup_memS hx)), a9⟩
 · rw [List.map_map] at a4; exact a4
 · have := a7 x (List.mem_filterMap.mpr ⟨some x, hx, rfl⟩)
   exact ⟨by simpa using this.1, by simpa using this.2⟩
theorem S1.asgD2 {kx vx iter : PySem.Expr} {ifs : List PySem.Expr} {x x' y : PySem.Str} {px px' tp py pos spos : Pos} {yy} {k k' j : Nat} {d : DI} {dt : DT} {da de : DE} (X : CS scope sc [(k, x), (k', x')]) (hkk : k ≠ k') (hxx : x ≠ x') (hi : SI S n sc ns iter d) (ht : STf S n (relS scope sc) (cns ns scope.names [(k, x), (k', x')]) ifs dt) (ha : SE S n (relS scope sc) (cns ns scope.names [(k, x), (k', x')]) kx da) (he : SE S n (relS scope sc) (cns ns scope.names [(k, x), (k', x')]) vx de)
 (e : ns[j]? = some (some y)) (hk : sc.names.lookup y = some .local)
 (hsw : ∀ env : PySem.Env, env.scope = sc → swapsWith (.DictComp kx vx [⟨.Tuple [.Name x px, .Name x' px'] yy tp, iter, ifs, 0⟩] scope pos) (some (.Name y py)) spos.line env = pure true)
 (hs : ∀ env x, foldedSetIterable iter env x = pure x := by intro _ _; rfl) :
 S1 S n sc ns (.Assign [.Name y py] (.DictComp kx vx [⟨.Tuple [.Name x px, .Name x' px'] yy tp, iter, ifs, 0⟩] scope pos) spos) (Mine.asg j (Mine.dcomp2 k k' d dt da de)) := ⟨fun {A E Q env h₀ m G D C ad ρ st s} hA F R hb q => by
 obtain ⟨v, s3, e3, eq⟩ := RS_ok hb
 have eq : Mine.asg j (Mine.dcomp2 k k' d dt da de) _ _ = _ := eq
 obtain ⟨⟨hh, l⟩, s1, e1, h1⟩ := R_ok e3
 obtain ⟨rfl, h1⟩ : hh = .no ∧ (Bool.rec (.bad 38) (Mine.R.rec (fun v s => .ok (.dct v) s) .bad (dcs2 k k' dt da de ρ l [] s1)) (Nat.ble (len l) cap) : Mine.R V) = _ := by
  cases hh with
  | no => exact ⟨rfl, h1⟩
  | «at» _ => cases h1
 obtain ⟨hl, h2⟩ := bt_ok h1
 obtain ⟨ws, s2, e2, h3⟩ := R_ok h2
 replace e2 := dcs2_G e2
 cases h3
 rw [eq] at q
 rw [exec_Assign_Name_used _ _ _ _ (hsw _ F.esc)]
 refine wpAny_bind (wpAny_standAt (wpAny_bind ?_))
 show wpAny _ A (do let _ ← comprehension (.DictComp kx vx [⟨.Tuple [.Name x px, .Name x' px'] yy tp, iter, ifs, 0⟩] scope pos) scope env _ newDict false (eval iter env) (some (assign (.Name y py) env))) _ _ s
 refine wpAny_bind (wpAny_mono (comp_dict (use := some (assign (.Name y py) env)) (Q := fun zz s' => Q .next s') hA F R X (TG.pair hkk hxx) hi ht ha he e1 e2 (hs _)
  fun s' G' D' ad' acc Cl mC R1 g1 p1 r hn hL h0 hne => ?_) (fun zz s' hq => wpAny_pure (wpAny_pure hq)) fun zz zz e => e)
 have hkind : env.scope.kind = .function := by rw [F.esc]; exact F.kind
 have hl' : env.kindOf y = some .local := (kindOf_eq F y).trans hk
 show wpAny _ A (assign (.Name y py) env (.ref acc)) _ _ _
 refine wpAny_assign_Name (wpAny_storeName_local hl' R1.fr.ns (fun h₂ hn₂ hs₂ => ?_) (by rw [hkind]; rfl))
 refine ⟨mC, hn.sameBut hs₂ hL, fun h₃ hs₃ => ?_⟩
 have R2 : Rel S ns env h₀ (fun z => if z = y then some (.ref acc) else m z) G' D' C ad' (setE j (.dct ws) ρ) s3 { s' with heap := h₂, toks := s'.toks + 1 } := by
  refine ⟨R1.fr.set hn₂ hs₂, R1.nw.set hs₂, R1.gd, R1.nod, R1.hp, fun i w z hi hz => ?_, R1.gens, R1.drawn, R1.os, R1.cl⟩
  rcases getE_set j _ ρ i w hi with ⟨rfl, rfl⟩ | ⟨hne, hi⟩
  · rw [e] at hz; cases hz
    exact ⟨_, .inl ⟨hl', if_pos rfl⟩, r⟩
  · obtain ⟨c', va, r'⟩ := R1.er i w z hi hz
    refine ⟨c', ?_, r'⟩
    rcases va with ⟨a, b⟩ | a
    · exact .inl ⟨a, (if_neg fun (q : z = y) => hne (F.ninj i j z hz (by rw [q]; exact e))).trans b⟩
    · exact .inr a
 exact q _ _ ⟨rfl, _, G', D', C, ad', R2.off hL h0 hne fun b o hb e => (hs₃.2 b hb).trans e, g1, p1, rfl⟩⟩
theorem SE.pow {i j r : Int} {k k' : Nat} {p p' pos : Pos} (h0 : j ≥ 0) (h1 : ¬(j == 0) = true) (h2 : ¬(i == 0 || i == 1) = true) (h3 : ¬(i == -1) = true) (h4 : ¬Builtin.Int.intTooBig (((Builtin.Int.intBits i : Nat) : Int) * j) = true) (e : i ^ j.toNat = r) :
 SE S n sc ns (.BinOp (.Constant (.int i) k p) .Pow (.Constant (.int j) k' p') pos) (cst (.int r)) := ⟨fun hA F R h q => by
 subst e
 cases h
 refine wpAny_BinOp ((SE.int (S := S) (n := n) (sc := sc) (ns := ns)).go hA F R rfl fun s' G' D' ad' cx R1 g1 p1 rx => (SE.int (S := S) (n := n) (sc := sc) (ns := ns)).go hA F R1 rfl fun s'' G'' D'' ad'' cy R2 g2 p2 ry => ?_)
 cases rx; cases ry
 exact AutoIntOps.pow_4 h0 h1 h2 h3 h4 (q _ _ _ _ _ (R2.toks _) (List.Subset.trans g1 g2) (p1.trans p2) (.int _ _))⟩
theorem inter (env : PySem.Env) (h : env.scope.kind = .function) : interactive env = false := by
 unfold interactive
 rw [h]; rfl
abbrev Nx (a : DA) : Prop := ∀ v ρ st, (∃ ρ' st', a v ρ st = .next ρ' st') ∨ ∃ k, a v ρ st = .bad k
theorem nx0 : ∀ a ∈ ([] : List DA), Nx a := fun zz h => nomatch h
theorem nxc {a : DA} {as : List DA} (h : Nx a) (t : ∀ b ∈ as, Nx b) : ∀ b ∈ a :: as, Nx b := fun b hb => by
 rcases List.mem_cons.mp hb with rfl | hb
 · exact h
 · exact t b hb
def okCS (scope sc : Scope) (tg : List (Nat × PySem.Str)) : Bool :=
 (scope.kind == .function) && scope.names.all (fun y => !(y.2 == .cell) && scope.names.lookup y.1 == some y.2 && (!(y.2 == .free) || sc.names.lookup y.1 == some .cell)) &&
 tg.all (fun p => scope.names.lookup p.2 == some .local && !(p.2 == ("__debug__" : PySem.Str)) && !(p.2 == ("__classdict__" : PySem.Str))) && tg.all fun p => tg.all fun q => !(p.2 == q.2) || p.1 == q.1
theorem CS.of {scope sc : Scope} {tg : List (Nat × PySem.Str)} (h : okCS scope sc tg = true) : CS scope sc tg := by
 unfold okCS at h
 simp only [Bool.and_eq_true, List.all_eq_true, Bool.or_eq_true, beq_iff_eq, Bool.not_eq_true'] at h
 obtain ⟨⟨⟨a1, a2⟩, a3⟩, a4⟩ := h
 refine ⟨a1, fun y hy e => ?_, fun y hy => (a2 y hy).1.2, fun y hy e => ?_, fun p hp => ?_, fun p hp q hq e => ?_⟩
 · have := (a2 y hy).1.1
   rw [e] at this; cases this
 · rcases (a2 y hy).2 with h | h
   · rw [e] at h; cases h
   · exact h
 · obtain ⟨⟨b1, b2⟩, b3⟩ := a3 p hp
   exact ⟨b1, by simpa using b2, by simpa using b3⟩
 · rcases a4 p hp q hq with h | h
   · rw [e] at h; simp at h
   · exact h
theorem all1 {P : Nat → Prop} {a : Nat} {l : List Nat} (h : P a) (t : ∀ c ∈ l, P c) : ∀ c ∈ a :: l, P c := fun c hc => by
 rcases List.mem_cons.mp hc with rfl | hc
 · exact h
 · exact t c hc
theorem all0 {P : Nat → Prop} : ∀ c ∈ ([] : List Nat), P c := fun zz h => nomatch h
end
end
end Mine
end
section
namespace Mine
noncomputable section
def strLen (k : Nat) : OL Nat := (Bool.rec (Bool.rec .no (.at (nat_lit 3)) (Nat.beq k (nat_lit 20))) (.at (nat_lit 4)) (Nat.beq k (nat_lit 0)))
def strEnc (k : Nat) : OL V := (Bool.rec (Bool.rec .no (.at (.bytes [(nat_lit 102), (nat_lit 97), (nat_lit 114)])) (Nat.beq k (nat_lit 20))) (.at (.bytes [(nat_lit 110), (nat_lit 101), (nat_lit 97), (nat_lit 114)])) (Nat.beq k (nat_lit 0)))
def strAsc (k : Nat) : OL V := (Bool.rec (Bool.rec .no (.at (.bool true)) (Nat.beq k (nat_lit 20))) (.at (.bool true)) (Nat.beq k (nat_lit 0)))
def strNul (k : Nat) : OL V := (Bool.rec (Bool.rec .no (.at (.bool false)) (Nat.beq k (nat_lit 20))) (.at (.bool false)) (Nat.beq k (nat_lit 0)))
def strRep (k : Nat) : OL V := (Bool.rec (Bool.rec (Bool.rec (Bool.rec (Bool.rec .no (.at (.str (nat_lit 3))) (Nat.beq k (nat_lit 3))) (.at (.str (nat_lit 9))) (Nat.beq k (nat_lit 9))) (.at (.str (nat_lit 6))) (Nat.beq k (nat_lit 6))) (.at (.str (nat_lit 5))) (Nat.beq k (nat_lit 5))) (.at (.str (nat_lit 7))) (Nat.beq k (nat_lit 7)))
def v_NAME_SIZE : V := (.int (.ofNat (nat_lit 32)))
def v_MOST_INSTANCE : V := (.int (.ofNat (nat_lit 4094)))
def v_MOST_TURNS : V := (.int (.ofNat (nat_lit 400)))
def v_SPREADING_ROLES : V := (.tup [(.str (nat_lit 5)), (.str (nat_lit 7)), (.str (nat_lit 6))])
def v_TOLD_ROLES : V := (.dct [((.str (nat_lit 5)), (.str (nat_lit 5))), ((.str (nat_lit 9)), (.str (nat_lit 9))), ((.str (nat_lit 8)), (.str (nat_lit 9))), ((.str (nat_lit 7)), (.str (nat_lit 7)))])
def v_TREE_ROLES : V := (.tup [(.str (nat_lit 6)), (.str (nat_lit 9)), (.str (nat_lit 5)), (.str (nat_lit 7))])
def v_FLAG_BITS : V := (.tup [(.tup [(.str (nat_lit 11)), (.int (.ofNat (nat_lit 1)))]), (.tup [(.str (nat_lit 12)), (.int (.ofNat (nat_lit 2)))]), (.tup [(.str (nat_lit 13)), (.int (.ofNat (nat_lit 16)))]), (.tup [(.str (nat_lit 14)), (.int (.ofNat (nat_lit 32)))]), (.tup [(.str (nat_lit 15)), (.int (.ofNat (nat_lit 64)))])])
def v_HEAD_SIZE : V := (.int (.ofNat (nat_lit 64)))
def v_ROW_SIZE : V := (.int (.ofNat (nat_lit 16)))
def v_REGION_SIZE : V := (.int (.ofNat (nat_lit 51)))
def v_CHANGE_ROLES : V := (.tup [(.str (nat_lit 5)), (.str (nat_lit 7)), (.str (nat_lit 6))])
def v_HELLOS_KEPT : V := (.int (.ofNat (nat_lit 3)))
def v_ROLES : V := (.tup [(.str (nat_lit 21)), (.str (nat_lit 9)), (.str (nat_lit 5)), (.str (nat_lit 7))])
def v_CHANGE_SIZE : V := (.int (.ofNat (nat_lit 4)))
def v_KINDS : V := (.dct [((.str (nat_lit 19)), (.int (.ofNat (nat_lit 0)))), ((.str (nat_lit 17)), (.int (.ofNat (nat_lit 2)))), ((.str (nat_lit 11)), (.int (.ofNat (nat_lit 128))))])
def v_KNOWN : V := (.int (.ofNat (nat_lit 3)))
def v_CONFIG_SIZE : V := (.int (.ofNat (nat_lit 35)))
def v_RAPID_SIZE : V := (.int (.ofNat (nat_lit 36)))
noncomputable abbrev l0' : DE := loc (nat_lit 0)
noncomputable abbrev l1' : DE := loc (nat_lit 1)
noncomputable abbrev l2' : DE := loc (nat_lit 2)
noncomputable abbrev l3' : DE := loc (nat_lit 3)
noncomputable abbrev c0' : DE := cst (.int (.ofNat (nat_lit 0)))
noncomputable abbrev c65536' : DE := cst (.int (.ofNat (nat_lit 65536)))
noncomputable abbrev c1' : DE := cst (.int (.ofNat (nat_lit 1)))
noncomputable abbrev c4094' : DE := cst (.int (.ofNat (nat_lit 4094)))
noncomputable abbrev n103' : Nat := nat_lit 103
noncomputable abbrev n3' : Nat := nat_lit 3
noncomputable abbrev l4' : DE := loc (nat_lit 4)
noncomputable abbrev n1' : Nat := nat_lit 1
noncomputable abbrev n2' : Nat := nat_lit 2
noncomputable abbrev n0' : Nat := nat_lit 0
noncomputable abbrev n7' : Nat := nat_lit 7
noncomputable abbrev l5' : DE := loc (nat_lit 5)
noncomputable abbrev n4' : Nat := nat_lit 4
noncomputable abbrev n12' : Nat := nat_lit 12
noncomputable abbrev n13' : Nat := nat_lit 13
noncomputable abbrev n15' : Nat := nat_lit 15
noncomputable abbrev n8' : Nat := nat_lit 8
noncomputable abbrev n9' : Nat := nat_lit 9
noncomputable abbrev n11' : Nat := nat_lit 11
noncomputable abbrev c8' : DE := cst (.int (.ofNat (nat_lit 8)))
noncomputable abbrev c255' : DE := cst (.int (.ofNat (nat_lit 255)))
noncomputable abbrev i2' : V := .int (.ofNat (nat_lit 2))
noncomputable abbrev a0' : DE → DE := att [nat_lit 7] (nat_lit 0)
noncomputable abbrev a1' : DE → DE := att [nat_lit 7] (nat_lit 2)
noncomputable abbrev a2' : DE → DE := att [nat_lit 7] (nat_lit 3)
noncomputable abbrev s2' : V := .str (nat_lit 2)
noncomputable abbrev cs2' : DE := cst s2'
noncomputable abbrev cF' : DE := cst (.bool false)
noncomputable abbrev a3' : DE → DE := att [nat_lit 11, nat_lit 15] (nat_lit 4)
noncomputable abbrev n6' : Nat := nat_lit 6
noncomputable abbrev n5' : Nat := nat_lit 5
noncomputable abbrev n10' : Nat := nat_lit 10
noncomputable abbrev s3' : V := .str (nat_lit 3)
noncomputable abbrev cs3' : DE := cst s3'
noncomputable abbrev cN' : DE := cst .none
noncomputable abbrev cT' : DE := cst (.bool true)
noncomputable abbrev n20' : Nat := nat_lit 20
noncomputable abbrev n17' : Nat := nat_lit 17
noncomputable abbrev n16' : Nat := nat_lit 16
noncomputable abbrev n14' : Nat := nat_lit 14
noncomputable abbrev n19' : Nat := nat_lit 19
noncomputable abbrev n18' : Nat := nat_lit 18
noncomputable abbrev n21' : Nat := nat_lit 21
noncomputable abbrev n22' : Nat := nat_lit 22
noncomputable abbrev a4' : DE → DE := att [nat_lit 7] (nat_lit 1)
noncomputable abbrev a5' : DE → DE := att [nat_lit 14] (nat_lit 0)
noncomputable abbrev a6' : DE → DE := att [nat_lit 14] (nat_lit 1)
noncomputable abbrev a7' : DE → DE := att [nat_lit 14] (nat_lit 2)
noncomputable abbrev i0' : V := .int (.ofNat (nat_lit 0))
noncomputable abbrev a8' : DE → DE := att [nat_lit 12, nat_lit 13, nat_lit 15] (nat_lit 0)
noncomputable abbrev a9' : DE → DE := att [nat_lit 9, nat_lit 13] (nat_lit 3)
noncomputable abbrev s4' : V := .str (nat_lit 4)
noncomputable abbrev cs4' : DE := cst s4'
noncomputable abbrev a10' : DE → DE := att [nat_lit 12] (nat_lit 3)
noncomputable abbrev a11' : DE → DE := att [nat_lit 6, nat_lit 10, nat_lit 12, nat_lit 13] (nat_lit 2)
noncomputable abbrev a12' : DE → DE := att [nat_lit 10, nat_lit 11] (nat_lit 0)
noncomputable abbrev a13' : DE → DE := att [nat_lit 11] (nat_lit 1)
noncomputable abbrev a14' : DE → DE := att [nat_lit 15] (nat_lit 1)
noncomputable abbrev a15' : DE → DE := att [nat_lit 8, nat_lit 9, nat_lit 15] (nat_lit 2)
noncomputable abbrev l6' : DE := loc (nat_lit 6)
noncomputable abbrev l7' : DE := loc (nat_lit 7)
noncomputable abbrev a16' : DE → DE := att [nat_lit 13] (nat_lit 1)
noncomputable abbrev a17' : DE → DE := att [nat_lit 5, nat_lit 10, nat_lit 12, nat_lit 13] (nat_lit 9)
noncomputable abbrev a18' : DE → DE := att [nat_lit 8, nat_lit 9, nat_lit 10, nat_lit 12, nat_lit 13] (nat_lit 8)
noncomputable abbrev a19' : DE → DE := att [nat_lit 14] (nat_lit 5)
noncomputable abbrev c2' : DE := cst (.int (.ofNat (nat_lit 2)))
noncomputable abbrev c4' : DE := cst (.int (.ofNat (nat_lit 4)))
noncomputable abbrev a20' : DE → DE := att [nat_lit 11] (nat_lit 3)
noncomputable abbrev s5' : V := .str (nat_lit 5)
noncomputable abbrev s6' : V := .str (nat_lit 6)
noncomputable abbrev cs5' : DE := cst s5'
noncomputable abbrev cs6' : DE := cst s6'
noncomputable abbrev a21' : DE → DE := att [nat_lit 6, nat_lit 8, nat_lit 10, nat_lit 12] (nat_lit 1)
noncomputable abbrev s7' : V := .str (nat_lit 7)
noncomputable abbrev s8' : V := .str (nat_lit 8)
noncomputable abbrev s9' : V := .str (nat_lit 9)
noncomputable abbrev cs7' : DE := cst s7'
noncomputable abbrev cs8' : DE := cst s8'
noncomputable abbrev cs9' : DE := cst s9'
noncomputable abbrev a22' : DE → DE := att [nat_lit 11] (nat_lit 2)
noncomputable abbrev a23' : DE → DE := att [nat_lit 13] (nat_lit 4)
noncomputable abbrev a24' : DE → DE := att [nat_lit 12] (nat_lit 4)
noncomputable abbrev s10' : V := .str (nat_lit 10)
noncomputable abbrev cs10' : DE := cst s10'
noncomputable abbrev a25' : DE → DE := att [nat_lit 12] (nat_lit 12)
noncomputable abbrev a26' : DE → DE := att [nat_lit 12] (nat_lit 5)
noncomputable abbrev a27' : DE → DE := att [nat_lit 12] (nat_lit 7)
noncomputable abbrev a28' : DE → DE := att [nat_lit 12] (nat_lit 6)
noncomputable abbrev a29' : DE → DE := att [nat_lit 12] (nat_lit 10)
noncomputable abbrev a30' : DE → DE := att [nat_lit 12] (nat_lit 11)
noncomputable abbrev a31' : DE → DE := att [nat_lit 12] (nat_lit 16)
noncomputable abbrev a32' : DE → DE := att [nat_lit 12] (nat_lit 15)
noncomputable abbrev a33' : DE → DE := att [nat_lit 5] (nat_lit 0)
noncomputable abbrev a34' : DE → DE := att [nat_lit 6, nat_lit 14] (nat_lit 3)
noncomputable abbrev a35' : DE → DE := att [nat_lit 5] (nat_lit 1)
noncomputable abbrev a36' : DE → DE := att [nat_lit 12] (nat_lit 13)
noncomputable abbrev a37' : DE → DE := att [nat_lit 12] (nat_lit 19)
noncomputable abbrev a38' : DE → DE := att [nat_lit 12] (nat_lit 14)
noncomputable abbrev a39' : DE → DE := att [nat_lit 12] (nat_lit 17)
noncomputable abbrev s11' : V := .str (nat_lit 11)
noncomputable abbrev s12' : V := .str (nat_lit 12)
noncomputable abbrev s13' : V := .str (nat_lit 13)
noncomputable abbrev s14' : V := .str (nat_lit 14)
noncomputable abbrev s15' : V := .str (nat_lit 15)
noncomputable abbrev a40' : DE → DE := att [nat_lit 12] (nat_lit 18)
noncomputable abbrev l8' : DE := loc (nat_lit 8)
noncomputable abbrev c3' : DE := cst (.int (.ofNat (nat_lit 3)))
noncomputable abbrev i6' : V := .int (.ofNat (nat_lit 6))
noncomputable abbrev i1' : V := .int (.ofNat (nat_lit 1))
noncomputable abbrev i4' : V := .int (.ofNat (nat_lit 4))
noncomputable abbrev a41' : DE → DE := att [nat_lit 8, nat_lit 10] (nat_lit 3)
noncomputable abbrev a42' : DE → DE := att [nat_lit 8] (nat_lit 4)
noncomputable abbrev a43' : DE → DE := att [nat_lit 8] (nat_lit 6)
noncomputable abbrev a44' : DE → DE := att [nat_lit 8] (nat_lit 5)
noncomputable abbrev a45' : DE → DE := att [nat_lit 9, nat_lit 14] (nat_lit 4)
noncomputable abbrev a46' : DE → DE := att [nat_lit 9] (nat_lit 0)
noncomputable abbrev a47' : DE → DE := att [nat_lit 14] (nat_lit 6)
noncomputable abbrev l9' : DE := loc (nat_lit 9)
noncomputable abbrev l10' : DE := loc (nat_lit 10)
noncomputable abbrev l11' : DE := loc (nat_lit 11)
noncomputable abbrev l12' : DE := loc (nat_lit 12)
noncomputable abbrev l15' : DE := loc (nat_lit 15)
noncomputable abbrev l13' : DE := loc (nat_lit 13)
noncomputable abbrev s16' : V := .str (nat_lit 16)
noncomputable abbrev s17' : V := .str (nat_lit 17)
noncomputable abbrev cs16' : DE := cst s16'
noncomputable abbrev cs11' : DE := cst s11'
noncomputable abbrev cs12' : DE := cst s12'
noncomputable abbrev cs15' : DE := cst s15'
noncomputable abbrev cs13' : DE := cst s13'
noncomputable abbrev cs14' : DE := cst s14'
noncomputable abbrev a48' : DE → DE := att [nat_lit 5] (nat_lit 2)
noncomputable abbrev a49' : DE → DE := att [nat_lit 11] (nat_lit 6)
noncomputable abbrev a50' : DE → DE := att [nat_lit 11] (nat_lit 5)
noncomputable abbrev a51' : DE → DE := att [nat_lit 14] (nat_lit 7)
noncomputable abbrev a52' : DE → DE := att [nat_lit 14] (nat_lit 8)
noncomputable abbrev c4096' : DE := cst (.int (.ofNat (nat_lit 4096)))
noncomputable abbrev s18' : V := .str (nat_lit 18)
noncomputable abbrev cs18' : DE := cst s18'
noncomputable abbrev s19' : V := .str (nat_lit 19)
noncomputable abbrev cs19' : DE := cst s19'
noncomputable abbrev cs17' : DE := cst s17'
noncomputable abbrev a53' : DE → DE := att [nat_lit 11] (nat_lit 9)
noncomputable abbrev a54' : DE → DE := att [nat_lit 6] (nat_lit 0)
noncomputable abbrev a55' : DE → DE := att [nat_lit 6] (nat_lit 5)
noncomputable abbrev c9' : DE := cst (.int (.ofNat (nat_lit 9)))
noncomputable abbrev c13' : DE := cst (.int (.ofNat (nat_lit 13)))
noncomputable abbrev c240' : DE := cst (.int (.ofNat (nat_lit 240)))
noncomputable abbrev c14' : DE := cst (.int (.ofNat (nat_lit 14)))
noncomputable abbrev c4095' : DE := cst (.int (.ofNat (nat_lit 4095)))
noncomputable abbrev c15' : DE := cst (.int (.ofNat (nat_lit 15)))
noncomputable abbrev c12' : DE := cst (.int (.ofNat (nat_lit 12)))
noncomputable abbrev a56' : DE → DE := att [nat_lit 8] (nat_lit 0)
noncomputable abbrev a57' : DE → DE := att [nat_lit 6] (nat_lit 4)
noncomputable abbrev n104' : Nat := nat_lit 104
noncomputable abbrev a58' : DE → DE := att [nat_lit 12] (nat_lit 20)
noncomputable abbrev a59' : DE → DE := att [nat_lit 6] (nat_lit 6)
noncomputable abbrev a60' : DE → DE := att [nat_lit 6] (nat_lit 10)
noncomputable abbrev a61' : DE → DE := att [nat_lit 6] (nat_lit 9)
noncomputable abbrev a62' : DE → DE := att [nat_lit 6] (nat_lit 8)
noncomputable abbrev a63' : DE → DE := att [nat_lit 6] (nat_lit 7)
noncomputable abbrev c16' : DE := cst (.int (.ofNat (nat_lit 16)))
noncomputable abbrev i50' : V := .int (.ofNat (nat_lit 50))
noncomputable abbrev i20' : V := .int (.ofNat (nat_lit 20))
noncomputable abbrev i15' : V := .int (.ofNat (nat_lit 15))
noncomputable abbrev i128' : V := .int (.ofNat (nat_lit 128))
noncomputable abbrev i3' : V := .int (.ofNat (nat_lit 3))
noncomputable abbrev s20' : V := .str (nat_lit 20)
noncomputable abbrev c128' : DE := cst (.int (.ofNat (nat_lit 128)))
noncomputable abbrev c32' : DE := cst (.int (.ofNat (nat_lit 32)))
noncomputable abbrev c64' : DE := cst (.int (.ofNat (nat_lit 64)))
noncomputable abbrev a64' : DE → DE := att [nat_lit 6] (nat_lit 11)
noncomputable abbrev c20' : DE := cst (.int (.ofNat (nat_lit 20)))
noncomputable abbrev c22' : DE := cst (.int (.ofNat (nat_lit 22)))
noncomputable abbrev c5' : DE := cst (.int (.ofNat (nat_lit 5)))
noncomputable abbrev c27' : DE := cst (.int (.ofNat (nat_lit 27)))
noncomputable abbrev c35' : DE := cst (.int (.ofNat (nat_lit 35)))
noncomputable abbrev c256' : DE := cst (.int (.ofNat (nat_lit 256)))
noncomputable abbrev i8192' : V := .int (.ofNat (nat_lit 8192))
def D__law_pool : DS := sq (asg (nat_lit 2) (ife (tcmp .ne (loc (nat_lit 0)) (lstV [])) (idx (loc (nat_lit 0)) (cst (.int (.ofNat (nat_lit 0))))) (cst (.int (.ofNat (nat_lit 0)))))) (sq (asg (nat_lit 3) (bMax (loc (nat_lit 2)) (sub (cst (.int (.negSucc (nat_lit 0)))) (loc (nat_lit 2))))) (sq (asg (nat_lit 4) (mod (mul (add (mod (loc (nat_lit 3)) (cst (.int (.ofNat (nat_lit 2147483629))))) (cst (.int (.ofNat (nat_lit 17))))) (cst (.int (.ofNat (nat_lit 48271))))) (cst (.int (.ofNat (nat_lit 2147483647)))))) (retS (lstE [mul (loc (nat_lit 3)) (bInt (vT (tcmp .ge (loc (nat_lit 3)) (cst (.int (.ofNat (nat_lit 1000000000000000000))))))), loc (nat_lit 4), ife (tcmp .eq (loc (nat_lit 0)) (lstV [])) (loc (nat_lit 1)) (lstV [])]))))
def F__law_pool : DF := fnD (nat_lit 3) D__law_pool
def D__law_take : DS := sq (iff (tcmp .ne (idx (loc (nat_lit 0)) (cst (.int (.ofNat (nat_lit 2))))) (lstV [])) (retS (mod (mPop0 (idx (loc (nat_lit 0)) (cst (.int (.ofNat (nat_lit 2)))))) (loc (nat_lit 1)))) (skip)) (sq (iff (tcmp .gt (idx (loc (nat_lit 0)) (cst (.int (.ofNat (nat_lit 0))))) (cst (.int (.ofNat (nat_lit 0))))) (sq (asg (nat_lit 2) (mod (idx (loc (nat_lit 0)) (cst (.int (.ofNat (nat_lit 0))))) (loc (nat_lit 1)))) (sq (sets (loc (nat_lit 0)) (cst (.int (.ofNat (nat_lit 0)))) (fdiv (idx (loc (nat_lit 0)) (cst (.int (.ofNat (nat_lit 0))))) (loc (nat_lit 1)))) (retS (loc (nat_lit 2))))) (skip)) (sq (sets (loc (nat_lit 0)) (cst (.int (.ofNat (nat_lit 1)))) (mod (add (mul (idx (loc (nat_lit 0)) (cst (.int (.ofNat (nat_lit 1))))) (cst (.int (.ofNat (nat_lit 39373))))) (cst (.int (.ofNat (nat_lit 7))))) (cst (.int (.ofNat (nat_lit 2147483647)))))) (retS (mod (fdiv (mod (mul (idx (loc (nat_lit 0)) (cst (.int (.ofNat (nat_lit 1))))) (idx (loc (nat_lit 0)) (cst (.int (.ofNat (nat_lit 1)))))) (cst (.int (.ofNat (nat_lit 2147483629))))) (cst (.int (.ofNat (nat_lit 32))))) (loc (nat_lit 1))))))
def F__law_take : DF := fnD (nat_lit 1) D__law_take
def D__law_one : DS := retS (idx (loc (nat_lit 1)) (cal F__law_take [loc (nat_lit 0), bLen strLen (loc (nat_lit 1))]))
def F__law_one : DF := fnD (nat_lit 0) D__law_one
def D_TreeTail___init__ : DS := sq (seta [nat_lit 9, nat_lit 14] (nat_lit 4) (loc (nat_lit 0)) (loc (nat_lit 1))) (sq (seta [nat_lit 8, nat_lit 9, nat_lit 15] (nat_lit 2) (loc (nat_lit 0)) (loc (nat_lit 2))) (sq (seta [nat_lit 9, nat_lit 13] (nat_lit 3) (loc (nat_lit 0)) (loc (nat_lit 3))) (sq (seta [nat_lit 8, nat_lit 9, nat_lit 10, nat_lit 12, nat_lit 13] (nat_lit 8) (loc (nat_lit 0)) (loc (nat_lit 4))) (seta [nat_lit 9] (nat_lit 0) (loc (nat_lit 0)) (loc (nat_lit 5))))))
def F_TreeTail___init__ : DF := fnD (nat_lit 0) D_TreeTail___init__
def D_cist_told : DS := sq (asgT [aN (nat_lit 3), aN (nat_lit 4), aN (nat_lit 5), aN (nat_lit 6)] (loc (nat_lit 0))) (sq (iff (tE (loc (nat_lit 2))) (retS (tupE [loc (nat_lit 3), loc (nat_lit 4), loc (nat_lit 5), att [nat_lit 8, nat_lit 9, nat_lit 15] (nat_lit 2) (loc (nat_lit 1)), att [nat_lit 9, nat_lit 13] (nat_lit 3) (loc (nat_lit 1)), loc (nat_lit 6)])) (skip)) (retS (tupE [loc (nat_lit 3), loc (nat_lit 4), loc (nat_lit 5), cst (.int (.ofNat (nat_lit 0))), loc (nat_lit 5), loc (nat_lit 6)])))
def F_cist_told : DF := fnD (nat_lit 4) D_cist_told
def D_cist_behind : DS := sq (iff (tE (loc (nat_lit 2))) (retS (add (add (slc (loc (nat_lit 0)) (cst .none) (cst (.int (.ofNat (nat_lit 3))))) (tupE [add (idx (loc (nat_lit 0)) (cst (.int (.ofNat (nat_lit 3))))) (loc (nat_lit 1))])) (slc (loc (nat_lit 0)) (cst (.int (.ofNat (nat_lit 4)))) (cst .none)))) (skip)) (retS (add (tupE [idx (loc (nat_lit 0)) (cst (.int (.ofNat (nat_lit 0)))), add (idx (loc (nat_lit 0)) (cst (.int (.ofNat (nat_lit 1))))) (loc (nat_lit 1)), loc (nat_lit 3), cst (.int (.ofNat (nat_lit 0)))]) (slc (loc (nat_lit 0)) (cst (.int (.ofNat (nat_lit 4)))) (cst .none))))
def F_cist_behind : DF := fnD (nat_lit 0) D_cist_behind
def D_tree_behind : DS := retS (add (tupE [idx (loc (nat_lit 0)) (cst (.int (.ofNat (nat_lit 0)))), add (idx (loc (nat_lit 0)) (cst (.int (.ofNat (nat_lit 1))))) (loc (nat_lit 1))]) (slc (loc (nat_lit 0)) (cst (.int (.ofNat (nat_lit 2)))) (cst .none)))
def F_tree_behind : DF := fnD (nat_lit 0) D_tree_behind
def D_is_from_same_port : DS := retS (vand (vT (tcmp .eq (idx (idx (loc (nat_lit 0)) (cst (.int (.negSucc (nat_lit 1))))) (cst (.int (.ofNat (nat_lit 1))))) (idx (idx (loc (nat_lit 1)) (cst (.int (.negSucc (nat_lit 1))))) (cst (.int (.ofNat (nat_lit 1))))))) (vT (tcmp .eq (idx (idx (loc (nat_lit 0)) (cst (.int (.negSucc (nat_lit 0))))) (cst (.int (.ofNat (nat_lit 1))))) (idx (idx (loc (nat_lit 1)) (cst (.int (.negSucc (nat_lit 0))))) (cst (.int (.ofNat (nat_lit 1))))))))
def F_is_from_same_port : DF := fnD (nat_lit 0) D_is_from_same_port
def D_takes_over : DS := retS (vor (vT (tcmp .lt (loc (nat_lit 0)) (loc (nat_lit 1)))) (vand (vT (tcmp .ne (loc (nat_lit 0)) (loc (nat_lit 1)))) (cal F_is_from_same_port [loc (nat_lit 0), loc (nat_lit 1)])))
def F_takes_over : DF := fnD (nat_lit 0) D_takes_over
def D__law_vectors_right : DS := sq (asgT [aN (nat_lit 6), aN (nat_lit 7)] (tupE [tupE [mul (cst (.int (.ofNat (nat_lit 4096)))) (cal F__law_take [loc (nat_lit 0), cst (.int (.ofNat (nat_lit 3)))]), cst (.int (.ofNat (nat_lit 7)))], tupE [cst (.int (.ofNat (nat_lit 8192))), cal F__law_one [loc (nat_lit 0), lstV [cst (.int (.ofNat (nat_lit 7))), cst (.int (.ofNat (nat_lit 8)))]]]])) (sq (asgT [aN (nat_lit 8), aN (nat_lit 9), aN (nat_lit 10)] (tupE [cal F__law_take [loc (nat_lit 0), cst (.int (.ofNat (nat_lit 50)))], cal F__law_take [loc (nat_lit 0), cst (.int (.ofNat (nat_lit 50)))], add (cst (.int (.ofNat (nat_lit 1)))) (cal F__law_take [loc (nat_lit 0), cst (.int (.ofNat (nat_lit 20)))])])) (sq (asgT [aN (nat_lit 5), aN (nat_lit 11)] (tupE [tupE [loc (nat_lit 6), loc (nat_lit 8), loc (nat_lit 7), tupE [cst (.int (.ofNat (nat_lit 128))), cst (.int (.ofNat (nat_lit 3)))]], tupE [cst (.int (.ofNat (nat_lit 4096))), cst (.int (.ofNat (nat_lit 99)))]])) (sq (asg (nat_lit 1) (mk (nat_lit 9) (nat_lit 9) F_TreeTail___init__ [bBytes (cst (.int (.ofNat (nat_lit 51)))), loc (nat_lit 9), tupE [cst (.int (.ofNat (nat_lit 4096))), cst (.int (.ofNat (nat_lit 12)))], cst (.int (.ofNat (nat_lit 9))), lstV []])) (sq (iff (tcmp .ne (cal F_cist_told [loc (nat_lit 5), loc (nat_lit 1), cst (.bool true)]) (tupE [loc (nat_lit 6), loc (nat_lit 8), loc (nat_lit 7), loc (nat_lit 9), tupE [cst (.int (.ofNat (nat_lit 4096))), cst (.int (.ofNat (nat_lit 12)))], tupE [cst (.int (.ofNat (nat_lit 128))), cst (.int (.ofNat (nat_lit 3)))]])) (badS (nat_lit 103)) (skip)) (sq (iff (tcmp .ne (cal F_cist_told [loc (nat_lit 5), cst .none, cst (.bool false)]) (tupE [loc (nat_lit 6), loc (nat_lit 8), loc (nat_lit 7), cst (.int (.ofNat (nat_lit 0))), loc (nat_lit 7), tupE [cst (.int (.ofNat (nat_lit 128))), cst (.int (.ofNat (nat_lit 3)))]])) (badS (nat_lit 103)) (skip)) (sq (asg (nat_lit 2) (tupE [loc (nat_lit 6), loc (nat_lit 8), loc (nat_lit 7), loc (nat_lit 9), tupE [cst (.int (.ofNat (nat_lit 4096))), cst (.int (.ofNat (nat_lit 12)))], tupE [cst (.int (.ofNat (nat_lit 128))), cst (.int (.ofNat (nat_lit 3)))]])) (sq (iff (tcmp .ne (cal F_cist_behind [loc (nat_lit 2), loc (nat_lit 10), cst (.bool true), loc (nat_lit 11)]) (tupE [loc (nat_lit 6), loc (nat_lit 8), loc (nat_lit 7), add (loc (nat_lit 9)) (loc (nat_lit 10)), tupE [cst (.int (.ofNat (nat_lit 4096))), cst (.int (.ofNat (nat_lit 12)))], tupE [cst (.int (.ofNat (nat_lit 128))), cst (.int (.ofNat (nat_lit 3)))]])) (badS (nat_lit 103)) (skip)) (sq (iff (tcmp .ne (cal F_cist_behind [loc (nat_lit 2), loc (nat_lit 10), cst (.bool false), loc (nat_lit 11)]) (tupE [loc (nat_lit 6), add (loc (nat_lit 8)) (loc (nat_lit 10)), loc (nat_lit 11), cst (.int (.ofNat (nat_lit 0))), tupE [cst (.int (.ofNat (nat_lit 4096))), cst (.int (.ofNat (nat_lit 12)))], tupE [cst (.int (.ofNat (nat_lit 128))), cst (.int (.ofNat (nat_lit 3)))]])) (badS (nat_lit 103)) (skip)) (sq (iff (tcmp .ne (cal F_tree_behind [slc (loc (nat_lit 2)) (cst (.int (.ofNat (nat_lit 2)))) (cst .none), loc (nat_lit 10)]) (tupE [loc (nat_lit 7), add (loc (nat_lit 9)) (loc (nat_lit 10)), tupE [cst (.int (.ofNat (nat_lit 4096))), cst (.int (.ofNat (nat_lit 12)))], tupE [cst (.int (.ofNat (nat_lit 128))), cst (.int (.ofNat (nat_lit 3)))]])) (badS (nat_lit 103)) (skip)) (sq (asg (nat_lit 3) (add (add (slc (loc (nat_lit 2)) (cst .none) (cst (.int (.ofNat (nat_lit 3))))) (tupE [add (loc (nat_lit 9)) (cst (.int (.ofNat (nat_lit 1))))])) (slc (loc (nat_lit 2)) (cst (.int (.ofNat (nat_lit 4)))) (cst .none)))) (sq (asg (nat_lit 4) (add (slc (loc (nat_lit 2)) (cst .none) (cst (.int (.ofNat (nat_lit 3))))) (tupE [add (loc (nat_lit 9)) (cst (.int (.ofNat (nat_lit 1)))), tupE [cst (.int (.ofNat (nat_lit 4096))), cst (.int (.ofNat (nat_lit 13)))], tupE [cst (.int (.ofNat (nat_lit 128))), cst (.int (.ofNat (nat_lit 3)))]]))) (sq (asg (nat_lit 5) (add (lcomp (nat_lit 12) (itE (lstV [loc (nat_lit 2), loc (nat_lit 3), loc (nat_lit 4)])) (tT) (cal F_takes_over [loc (nat_lit 12), loc (nat_lit 2)])) (lstV [cal F_takes_over [loc (nat_lit 2), loc (nat_lit 4)]]))) (retS (vT (tcmp .eq (loc (nat_lit 5)) (lstV [cst (.bool false), cst (.bool true), cst (.bool false), cst (.bool true)]))))))))))))))))
def F__law_vectors_right : DF := fnD (nat_lit 12) D__law_vectors_right
def D_check_region : DS := sq (iff (tor (tcmp .gt (bLen strLen l0') (cst v_NAME_SIZE)) (tor (tnot (tE (mStr strAsc l0'))) (tE (mStr strNul l0')))) (badS n103') skip) (sq (iff (tnot (tcmp3 .le .lt c0' l1' c65536')) (badS n103') skip) (forS (aN n3') (itE l2') (iff (tor (tnot (tcmp3 .le .le c1' l3' c4094')) (tnot (tcmp3 .le .le c0' (idx l2' l3') (cst v_MOST_INSTANCE)))) (badS n103') skip)))
def F_check_region : DF := fnD (nat_lit 1) D_check_region
def D_Region___init__ : DS := sq (exq (cal F_check_region [loc n1', loc n2', loc n3'])) (sq (seta [n7'] n0' l0' l4') (sq (seta [n7'] n2' l0' l1') (sq (seta [n7'] n3' l0' l2') (seta [n7'] n1' l0' (bDict l3')))))
def F_Region___init__ : DF := fnD (nat_lit 0) D_Region___init__
def D_PortRow___init__ : DS := sq (seta [n12', n13', n15'] n0' l0' l1') (sq (seta [n15'] n1' l0' l2') (sq (seta [n8', n9', n15'] n2' l0' l3') (sq (seta [n11', n15'] n4' l0' l4') (seta [n15'] n3' l0' l5'))))
def F_PortRow___init__ : DF := fnD (nat_lit 0) D_PortRow___init__
def D_put_number : DS := sq (iff (tnot (tcmp3 .le .lt c0' l0' (shl c1' (mul c8' l1')))) (badS n103') skip) (retS (bBytes (lcomp n2' (itDown (sub l1' c1')) (tT) (band (shr l0' (mul c8' l2')) c255'))))
def F_put_number : DF := fnD (nat_lit 1) D_put_number
def D_put16 : DS := retS (cal F_put_number [loc n0', cst i2'])
def F_put16 : DF := fnD (nat_lit 0) D_put16
def D_Region_digest : DS := sq (iff (tisN (a0' l0')) (badS n103') skip) (retS (a0' l0'))
def F_Region_digest : DF := fnD (nat_lit 1) D_Region_digest
def D_Region_octets : DS := sq (asg n1' (mStr strEnc (a1' l0'))) (retS (add (add (add (add (cst (.bytes [n0'])) l1') (bBytes (sub (cst v_NAME_SIZE) (bLen strLen l1')))) (cal F_put16 [a2' l0'])) (mcal [(n7', F_Region_digest)] l0' [])))
def F_Region_octets : DF := fnD (nat_lit 1) D_Region_octets
def D_PortSide___init__ : DS := sq (seta [n11'] n1' l0' l1') (sq (seta [n11'] n2' l0' cF') (sq (seta [n11', n15'] n4' l0' (a3' l1')) (sq (seta [n10', n11'] n0' l0' cF') (sq (seta [n11'] n3' l0' cs2') (sq (seta [n11'] n6' l0' cF') (sq (seta [n11'] n5' l0' c0') (sq (seta [n11'] n7' l0' c0') (sq (seta [n11'] n9' l0' c0') (seta [n11'] n8' l0' cF')))))))))
def F_PortSide___init__ : DF := fnD (nat_lit 0) D_PortSide___init__
def D_TreePort_clear : DS := sq (seta [n12'] n3' l0' cs3') (sq (seta [n6', n10', n12', n13'] n2' l0' cN') (sq (seta [n5', n10', n12', n13'] n9' l0' c0') (sq (seta [n8', n9', n10', n12', n13'] n8' l0' c0') (sq (seta [n12'] n20' l0' c0') (sq (seta [n12'] n4' l0' cN') (sq (seta [n6', n8', n10', n12'] n1' l0' cs3') (sq (seta [n12'] n7' l0' cF') (sq (seta [n12'] n6' l0' cF') (sq (seta [n12'] n17' l0' cF') (sq (seta [n12'] n16' l0' cF') (sq (seta [n12'] n15' l0' cF') (sq (seta [n12'] n12' l0' cF') (sq (seta [n12'] n10' l0' cF') (sq (seta [n12'] n5' l0' cT') (sq (seta [n12'] n11' l0' cF') (sq (seta [n12'] n14' l0' c0') (sq (seta [n12'] n13' l0' c0') (sq (seta [n12'] n19' l0' c0') (seta [n12'] n18' l0' c0')))))))))))))))))))
def F_TreePort_clear : DF := fnD (nat_lit 0) D_TreePort_clear
def D_TreePort___init__ : DS := sq (seta [n12', n13', n15'] n0' l0' l1') (sq (seta [n12'] n21' l0' cF') (exq (mcal [(n12', F_TreePort_clear)] l0' [])))
def F_TreePort___init__ : DF := fnD (nat_lit 0) D_TreePort___init__
def D_TreeSide___init__ : DS := sq (seta [n12', n13', n15'] n0' l0' l1') (sq (seta [n9', n13'] n3' l0' l2') (sq (seta [n13'] n1' l0' (dcomp n4' (itE l3') (tT) l4' (mk n12' n22' F_TreePort___init__ [loc n4']))) (sq (seta [n6', n10', n12', n13'] n2' l0' cN') (sq (seta [n13'] n4' l0' cN') (sq (seta [n5', n10', n12', n13'] n9' l0' c0') (seta [n8', n9', n10', n12', n13'] n8' l0' c0'))))))
def F_TreeSide___init__ : DF := fnD (nat_lit 1) D_TreeSide___init__
def D_Region_numbers : DS := retS (bSorted (dcomp n1' (itVals (a4' l0')) (tcmp .ne l1' c0') l1' cT'))
def F_Region_numbers : DF := fnD (nat_lit 1) D_Region_numbers
def D_MstBridge_numbers : DS := retS (bSorted (a5' l0'))
def F_MstBridge_numbers : DF := fnD (nat_lit 0) D_MstBridge_numbers
def D_MstBridge_instance_trees : DS := retS (lcomp n1' (itE (bSorted (a6' l0'))) (tcmp .gt l1' c0') (idx (a6' l0') l1'))
def F_MstBridge_instance_trees : DF := fnD (nat_lit 1) D_MstBridge_instance_trees
def D_MstBridge_all_trees : DS := retS (add (lstV [a7' l0']) (mcal [(n14', F_MstBridge_instance_trees)] l0' []))
def F_MstBridge_all_trees : DF := fnD (nat_lit 0) D_MstBridge_all_trees
def D_own_tree_vector : DS := sq (iff (tcmp .gt (a8' l0') c0') (retS (tupE [a9' l0', cst i0', a9' l0', tupE [cst i0', cst i0']])) skip) (retS (tupE [a9' l0', cst i0', a9' l0', cst i0', a9' l0', tupE [cst i0', cst i0']]))
def F_own_tree_vector : DF := fnD (nat_lit 0) D_own_tree_vector
def D_MstBridge_side : DS := retS (idx (a5' l0') l1')
def F_MstBridge_side : DF := fnD (nat_lit 0) D_MstBridge_side
def D_is_candidate : DS := sq (iff (tor (tcmp .ne (a10' l2') cs4') (tcmp .eq (idx (idx (a11' l2') (cst (.int (.negSucc n1')))) c1') (idx (a9' l1') c1'))) (retS cF') skip) (retS (vor (vT (tcmp .eq (a8' l1') c0')) (a12' (mcal [(n14', F_MstBridge_side)] l0' [a8' l2']))))
def F_is_candidate : DF := fnD (nat_lit 0) D_is_candidate
def D_PortSide_port_id : DS := retS (tupE [a14' (a13' l0'), a8' (a13' l0')])
def F_PortSide_port_id : DF := fnD (nat_lit 0) D_PortSide_port_id
def D_behind_port : DS := sq (asg n3' (mcal [(n14', F_MstBridge_side)] l0' [a8' l2'])) (sq (iff (tcmp .gt (a8' l1') c0') (retS (add (cal F_tree_behind [a11' l2', a15' (a13' l3')]) (tupE [mcal [(n11', F_PortSide_port_id)] l3' []]))) skip) (retS (add (cal F_cist_behind [a11' l2', a15' (a13' l3'), a12' l3', a9' (a7' l0')]) (tupE [mcal [(n11', F_PortSide_port_id)] l3' []]))))
def F_behind_port : DF := fnD (nat_lit 1) D_behind_port
def D_choose_root : DS := sq (asgT [aN n3', aN n4'] (tupE [add (cal F_own_tree_vector [loc n1']) (tupE [tupE [cst i0', cst i0']]), cst .none])) (sq (forS (aN n2') (itE (bSorted (a16' l1'))) (sq (asg n5' (idx (a16' l1') l2')) (iff (tE (cal F_is_candidate [loc n0', loc n1', loc n5'])) (sq (asg n6' (cal F_behind_port [loc n0', loc n1', loc n5'])) (iff (tcmp .lt l6' l3') (asgT [aN n3', aN n4'] (tupE [loc n6', loc n2'])) skip)) skip))) (sq (asgT [aA [n6', n10', n12', n13'] n2' l1', aA [n13'] n4' l1'] (tupE [slc l3' cN' (cst (.int (.negSucc n0'))), loc n4'])) (sq (asgT [aA [n5', n10', n12', n13'] n9' l1', aA [n8', n9', n10', n12', n13'] n8' l1'] (tupE [cst i0', a19' l0'])) (iff (tnot (tisN l4')) (sq (asgT [aN n5', aN n7'] (tupE [idx (a16' l1') l4', mcal [(n14', F_MstBridge_side)] l0' [loc n4']])) (sq (seta [n5', n10', n12', n13'] n9' l1' (ife (tE (a12' l7')) (a17' l5') (add (a17' l5') c1'))) (seta [n8', n9', n10', n12', n13'] n8' l1' (ife (tE (a12' l7')) (sub (a18' l5') c1') (a19' l0'))))) skip))))
def F_choose_root : DF := fnD (nat_lit 6) D_choose_root
def D_with_teller : DS := retS (add (slc l0' cN' (cst (.int (.negSucc n1')))) (tupE [loc n1', loc n2']))
def F_with_teller : DF := fnD (nat_lit 0) D_with_teller
def D_designated_vector : DS := sq (asg n3' (mcal [(n14', F_MstBridge_side)] l0' [loc n2'])) (sq (asg n4' (cal F_with_teller [a11' l1', a9' l1', mcal [(n11', F_PortSide_port_id)] l3' []])) (sq (iff (tand (tcmp .eq (a8' l1') c0') (tcmp .ne (a20' l3') cs2')) (retS (add (add (slc l4' cN' c2') (tupE [a9' l1', cst i0'])) (slc l4' c4' cN'))) skip) (retS l4')))
def F_designated_vector : DF := fnD (nat_lit 2) D_designated_vector
def D_is_beyond : DS := retS (vand (vT (tcmp .gt (a8' l1') c0')) (vT (tnot (tE (a12' (mcal [(n14', F_MstBridge_side)] l0' [loc n2']))))))
def F_is_beyond : DF := fnD (nat_lit 0) D_is_beyond
def D_role_beside : DS := sq (asg n2' (a21' (idx (a16' (a7' l0')) l1'))) (retS (ife (tcmp .eq l2' cs5') cs6' l2'))
def F_role_beside : DF := fnD (nat_lit 1) D_role_beside
def D_role_by_vectors : DS := sq (iff (tnot (tE (a22' (mcal [(n14', F_MstBridge_side)] l0' [a8' l2'])))) (retS cs3') skip) (sq (iff (tcmp .ne (a10' l2') cs4') (retS cs7') skip) (sq (iff (tcmp .eq (a8' l2') (a23' l1')) (retS cs5') skip) (sq (iff (tcmp .lt (a24' l2') (a11' l2')) (retS cs7') skip) (retS (ife (tcmp .eq (idx (idx (a11' l2') (cst (.int (.negSucc n1')))) c1') (idx (a9' l1') c1')) cs8' cs9')))))
def F_role_by_vectors : DF := fnD (nat_lit 0) D_role_by_vectors
def D_choose_roles : DS := sq (exq (cal F_choose_root [loc n0', loc n1'])) (sq (asg n2' (lstE [])) (sq (forS (aN n3') (itE (bSorted (a16' l1'))) (sq (asg n4' (idx (a16' l1') l3')) (sq (seta [n12'] n4' l4' (cal F_designated_vector [loc n0', loc n1', loc n3'])) (sq (iff (tE (cal F_is_beyond [loc n0', loc n1', loc n3'])) (sq (seta [n6', n8', n10', n12'] n1' l4' (cal F_role_beside [loc n0', loc n3'])) (contS)) skip) (sq (seta [n6', n8', n10', n12'] n1' l4' (cal F_role_by_vectors [loc n0', loc n1', loc n4'])) (iff (tand (tcmp .eq (a21' l4') cs7') (tor (tcmp .ne (a10' l4') cs10') (tcmp .ne (a11' l4') (a24' l4')))) (exq (mAppend l2' l4')) skip)))))) (retS l2')))
def F_choose_roles : DF := fnD (nat_lit 3) D_choose_roles
def D_take_own : DS := sq (seta [n12'] n17' l0' cF') (sq (seta [n12'] n16' l0' cF') (sq (seta [n12'] n12' l0' (vand (a25' l0') (vand (vT (tcmp .eq (a10' l0') cs10')) (vT (tcmp .le (a24' l0') (a11' l0')))))) (sq (seta [n12'] n5' l0' (vand (a26' l0') (a25' l0'))) (sq (seta [n6', n10', n12', n13'] n2' l0' (a24' l0')) (seta [n12'] n3' l0' cs10')))))
def F_take_own : DF := fnD (nat_lit 0) D_take_own
def D_MstBridge_want_to_send : DS := seta [n11'] n6' (idx (a5' l0') l1') cT'
def F_MstBridge_want_to_send : DF := fnD (nat_lit 0) D_MstBridge_want_to_send
def D_TreePort_block : DS := sq (seta [n12'] n7' l0' cF') (sq (seta [n12'] n6' l0' cF') (seta [n12'] n14' l0' l1'))
def F_TreePort_block : DF := fnD (nat_lit 0) D_TreePort_block
def D_moved_disabled : DS := sq (iff (tor (tE (a27' l2')) (tor (tE (a28' l2')) (tor (tnot (tE (a26' l2'))) (tor (tE (a29' l2')) (tE (a30' l2')))))) (sq (exq (mcal [(n12', F_TreePort_block)] l2' [cst i0'])) (sq (asgT [aA [n12'] n5' l2', aA [n12'] n10' l2', aA [n12'] n11' l2', aA [n12'] n13' l2'] (tupE [cst (.bool true), cst (.bool false), cst (.bool false), cst i0'])) (retS cT'))) skip) (retS cF')
def F_moved_disabled : DF := fnD (nat_lit 0) D_moved_disabled
def D_moved_beyond : DS := sq (asg n3' (idx (a16' (a7' l0')) (a8' l2'))) (sq (iff (tand (tcmp .eq (tupE [a27' l2', a28' l2', a26' l2']) (tupE [a27' l3', a28' l3', cst (.bool true)])) (tnot (tE (a29' l2')))) (retS cF') skip) (sq (asgT [aA [n12'] n7' l2', aA [n12'] n6' l2', aA [n12'] n5' l2', aA [n12'] n10' l2', aA [n12'] n11' l2'] (tupE [a27' l3', a28' l3', cst (.bool true), cst (.bool false), cst (.bool false)])) (retS cT')))
def F_moved_beyond : DF := fnD (nat_lit 1) D_moved_beyond
def D_TreeSide_others : DS := retS (lcomp n2' (itE (bSorted (a16' l0'))) (tcmp .ne l2' l1') (idx (a16' l0') l2'))
def F_TreeSide_others : DF := fnD (nat_lit 1) D_TreeSide_others
def D_MstBridge_are_instances_synced : DS := sq (iff (tor (tcmp .gt (a8' l1') c0') (tE (a12' (idx (a5' l0') l2')))) (retS cT') skip) (sq (forS (aN n3') (itE (mcal [(n14', F_MstBridge_instance_trees)] l0' [])) (forS (aN n4') (itE (mcal [(n13', F_TreeSide_others)] l3' [loc n2'])) (iff (tand (tnot (tE (a26' l4'))) (tin (a21' l4') (tupE [cst s7', cst s9', cst s8']))) (retS cF') skip))) (retS cT'))
def F_MstBridge_are_instances_synced : DF := fnD (nat_lit 2) D_MstBridge_are_instances_synced
def D_are_synced : DS := retS (vT (tcmp .eq (lcomp n2' (itE (mcal [(n13', F_TreeSide_others)] l0' [loc n1'])) (tand (tnot (tE (a26' l2'))) (tcmp .ne (a21' l2') cs5')) l2') (lstV [])))
def F_are_synced : DF := fnD (nat_lit 1) D_are_synced
def D_agreed_onward : DS := sq (iff (tand (tE (a31' l2')) (tnot (tE (a32' l2')))) (badS n103') skip) (sq (iff (tand (tE (cal F_are_synced [loc n1', a8' l2'])) (tand (tE (mcal [(n14', F_MstBridge_are_instances_synced)] l0' [loc n1', a8' l2'])) (tnot (tE (a32' l2'))))) (sq (asgT [aA [n12'] n16' l2', aA [n12'] n10' l2', aA [n12'] n15' l2'] (tupE [cst (.bool false), cst (.bool false), cst (.bool true)])) (sq (exq (mcal [(n14', F_MstBridge_want_to_send)] l0' [a8' l2'])) (retS cT'))) skip) (sq (iff (tE (a31' l2')) (badS n103') skip) (retS cF')))
def F_agreed_onward : DF := fnD (nat_lit 0) D_agreed_onward
def D_MstBridge_delay : DS := retS (a33' (a34' l0'))
def F_MstBridge_delay : DF := fnD (nat_lit 0) D_MstBridge_delay
def D_MstBridge_spread_change : DS := forS (aN n3') (itE (mcal [(n13', F_TreeSide_others)] l1' [loc n2'])) (iff (tand (tin (a21' l3') (cst v_SPREADING_ROLES)) (tnot (tE (a3' (idx (a5' l0') (a8' l3')))))) (sq (seta [n12'] n21' l3' cT') (sq (seta [n12'] n18' l3' (add (a35' (a34' l0')) c1')) (exq (mcal [(n14', F_MstBridge_want_to_send)] l0' [a8' l3'])))) skip)
def F_MstBridge_spread_change : DF := fnD (nat_lit 1) D_MstBridge_spread_change
def D_MstBridge_tell_change : DS := iff (tnot (tE (a3' (idx (a5' l0') (a8' l2'))))) (sq (seta [n12'] n18' l2' (add (a35' (a34' l0')) c1')) (sq (exq (mcal [(n14', F_MstBridge_want_to_send)] l0' [a8' l2'])) (exq (mcal [(n14', F_MstBridge_spread_change)] l0' [loc n1', a8' l2'])))) skip
def F_MstBridge_tell_change : DF := fnD (nat_lit 0) D_MstBridge_tell_change
def D_opened : DS := sq (iff (tnot (tE (a27' l2'))) (sq (asgT [aA [n12'] n7' l2', aA [n12'] n14' l2'] (tupE [cst (.bool true), mcal [(n14', F_MstBridge_delay)] l0' []])) (retS cT')) skip) (sq (iff (tnot (tE (a28' l2'))) (sq (asgT [aA [n12'] n6' l2', aA [n12'] n14' l2'] (tupE [cst (.bool true), cst i0'])) (sq (exq (mcal [(n14', F_MstBridge_tell_change)] l0' [loc n1', loc n2'])) (retS cT'))) skip) (retS cF'))
def F_opened : DF := fnD (nat_lit 0) D_opened
def D_moved_root : DS := sq (iff (tE (cal F_agreed_onward [loc n0', loc n1', loc n2'])) (retS cT') skip) (sq (iff (tor (tand (tE (a25' l2')) (tnot (tE (a26' l2')))) (tand (tE (a29' l2')) (tE (a26' l2')))) (badS n103') skip) (sq (iff (tand (tnot (tE (a28' l2'))) (tnot (tE (a30' l2')))) (sq (forS (aN n4') (itE (mcal [(n13', F_TreeSide_others)] l1' [a8' l2'])) (seta [n12'] n11' l4' cT')) (sq (seta [n12'] n11' l2' cT') (retS cT'))) skip) (sq (iff (tand (tE (a30' l2')) (tE (a28' l2'))) (sq (seta [n12'] n11' l2' cF') (retS cT')) skip) (sq (iff (tcmp .ne (a36' l2') (mcal [(n14', F_MstBridge_delay)] l0' [])) (sq (seta [n12'] n13' l2' (mcal [(n14', F_MstBridge_delay)] l0' [])) (retS cT')) skip) (sq (asg n3' (vand (vT (tcmp .eq (a37' l2') c0')) (vT (tcmp .eq (lcomp n5' (itE (mcal [(n13', F_TreeSide_others)] l1' [a8' l2'])) (tcmp .gt (a36' l5') c0') l5') (lstV []))))) (sq (iff (tor (tcmp .eq (a38' l2') c0') (tE l3')) (retS (cal F_opened [loc n0', loc n1', loc n2'])) skip) (badS n103')))))))
def F_moved_root : DF := fnD (nat_lit 3) D_moved_root
def D_moved_designated : DS := sq (asg n3' (mcal [(n14', F_MstBridge_side)] l0' [a8' l2'])) (sq (iff (tand (tnot (tE (a28' l2'))) (tand (tnot (tE (a25' l2'))) (tand (tnot (tE (a39' l2'))) (tnot (tE (a3' l3')))))) (sq (seta [n12'] n17' l2' cT') (sq (exq (mcal [(n14', F_MstBridge_want_to_send)] l0' [a8' l2'])) (retS cT'))) skip) (sq (asg n4' (vand (vT (tnot (tE (a27' l2')))) (vT (tnot (tE (a28' l2')))))) (sq (iff (tor (tand (tnot (tE (a26' l2'))) (tor (tE l4') (tor (tE (a25' l2')) (tE (a3' l3'))))) (tand (tE (a29' l2')) (tE (a26' l2')))) (sq (asgT [aA [n12'] n13' l2', aA [n12'] n5' l2', aA [n12'] n10' l2'] (tupE [cst i0', cst (.bool true), cst (.bool false)])) (retS cT')) skip) (sq (iff (tand (tcmp .eq (a36' l2') c0') (tE (a30' l2'))) (sq (seta [n12'] n11' l2' cF') (retS cT')) skip) (sq (asg n5' (vor (vand (a29' l2') (vT (tnot (tE (a26' l2'))))) (vand (a30' l2') (vT (tcmp .gt (a36' l2') c0'))))) (sq (iff (tand (tE l5') (tand (tnot (tE (a3' l3'))) (tnot (tE l4')))) (badS n103') skip) (sq (asg n6' (vor (vT (tcmp .eq (a38' l2') c0')) (vor (a25' l2') (a3' l3')))) (sq (iff (tand (tE l6') (tand (tnot (tE (a29' l2'))) (tor (tcmp .eq (a36' l2') c0') (tnot (tE (a30' l2')))))) (badS n103') skip) (retS cF')))))))))
def F_moved_designated : DF := fnD (nat_lit 4) D_moved_designated
def D_moved_blocked : DS := sq (iff (tor (tE (a27' l2')) (tE (a28' l2'))) (sq (exq (mcal [(n12', F_TreePort_block)] l2' [mcal [(n14', F_MstBridge_delay)] l0' []])) (retS cT')) skip) (sq (iff (tand (tcmp .eq (a21' l2') cs8') (tcmp .ne (a37' l2') (mul c2' (a35' (a34' l0'))))) (badS n103') skip) (sq (iff (tor (tnot (tE (a26' l2'))) (tor (tE (a29' l2')) (tor (tE (a30' l2')) (tor (tcmp .gt (a36' l2') c0') (tcmp .ne (a38' l2') (mcal [(n14', F_MstBridge_delay)] l0' [])))))) (sq (asgT [aA [n12'] n5' l2', aA [n12'] n10' l2', aA [n12'] n11' l2', aA [n12'] n13' l2'] (tupE [cst (.bool true), cst (.bool false), cst (.bool false), cst i0'])) (sq (seta [n12'] n14' l2' (mcal [(n14', F_MstBridge_delay)] l0' [])) (retS cT'))) skip) (retS (cal F_agreed_onward [loc n0', loc n1', loc n2']))))
def F_moved_blocked : DF := fnD (nat_lit 0) D_moved_blocked
def D_moved_port : DS := sq (iff (tcmp .eq (a21' l2') cs3') (retS (cal F_moved_disabled [loc n0', loc n1', loc n2'])) skip) (sq (iff (tE (cal F_is_beyond [loc n0', loc n1', a8' l2'])) (retS (cal F_moved_beyond [loc n0', loc n1', loc n2'])) skip) (sq (iff (tcmp .eq (a21' l2') cs5') (retS (cal F_moved_root [loc n0', loc n1', loc n2'])) skip) (retS (ife (tcmp .eq (a21' l2') cs7') (cal F_moved_designated [loc n0', loc n1', loc n2']) (cal F_moved_blocked [loc n0', loc n1', loc n2'])))))
def F_moved_port : DF := fnD (nat_lit 0) D_moved_port
def D_MstBridge_step : DS := sq (asg n1' cF') (sq (forS (aN n2') (itE (mcal [(n14', F_MstBridge_all_trees)] l0' [])) (forS (aN n3') (itE (cal F_choose_roles [loc n0', loc n2'])) (sq (exq (cal F_take_own [loc n3'])) (sq (exq (mcal [(n14', F_MstBridge_want_to_send)] l0' [a8' l3'])) (asg n1' cT'))))) (sq (forS (aN n2') (itE (mcal [(n14', F_MstBridge_all_trees)] l0' [])) (forS (aN n4') (itE (mcal [(n7', F_Region_numbers), (n14', F_MstBridge_numbers)] l0' [])) (asg n1' (vor (cal F_moved_port [loc n0', loc n2', idx (a16' l2') l4']) l1')))) (retS l1')))
def F_MstBridge_step : DF := fnD (nat_lit 4) D_MstBridge_step
def D_told_flags : DS := retS (dctV [s11', s12', s13', s14', s15'] [vT (tcmp .gt (a40' l0') c0'), a39' l0', a27' l0', a28' l0', a32' l0'])
def F_told_flags : DF := fnD (nat_lit 0) D_told_flags
def D_Times___init__ : DS := sq (seta [n5', n10', n12', n13'] n9' l0' l1') (sq (seta [n5'] n2' l0' l2') (sq (seta [n5'] n1' l0' l3') (seta [n5'] n0' l0' l4')))
def F_Times___init__ : DF := fnD (nat_lit 0) D_Times___init__
def D_TreeRow___init__ : DS := sq (seta [n8'] n0' l0' l1') (sq (seta [n8'] n6' l0' l2') (sq (seta [n8', n9', n15'] n2' l0' l3') (sq (seta [n8'] n4' l0' l4') (sq (seta [n8'] n5' l0' l5') (sq (seta [n8', n9', n10', n12', n13'] n8' l0' l6') (sq (seta [n6', n8', n10', n12'] n1' l0' l7') (seta [n8', n10'] n3' l0' l8')))))))
def F_TreeRow___init__ : DF := fnD (nat_lit 0) D_TreeRow___init__
def D_tree_row : DS := sq (asgT [aN n5', aN n6'] (tupE [idx (a16' l1') l2', a24' (idx (a16' l1') l2')])) (sq (asg n3' (ife (tin (a21' l5') (tupE [cst s6', cst s5', cst s7'])) (a21' l5') cs9')) (sq (asg n4' (sub (idx (a9' l1') c0') (a8' l1'))) (retS (mk n8' n9' F_TreeRow___init__ [a8' l1', idx l6' c0', idx l6' c1', loc n4', idx (idx l6' c3') c0', bMax c0' (a18' l1'), loc n3', cal F_told_flags [loc n5']]))))
def F_tree_row : DF := fnD (nat_lit 4) D_tree_row
def D_number_octets : DS := sq (iff (tnot (tcmp3 .le .lt c0' l0' (shl c1' (mul c8' l1')))) (badS n103') skip) (retS (bBytes (lcomp n2' (itDown (sub l1' c1')) (tT) (band (shr l0' (mul c8' l2')) c255'))))
def F_number_octets : DF := fnD (nat_lit 1) D_number_octets
def D_bridge_octets : DS := retS (add (cal F_number_octets [idx l0' c0', cst i2']) (cal F_number_octets [idx l0' c1', cst i6']))
def F_bridge_octets : DF := fnD (nat_lit 0) D_bridge_octets
def D_row_octets : DS := sq (asg n1' (add (mul c4' (mIndex (cst v_TREE_ROLES) (a21' l0'))) (bSum (lcomp2 n4' n5' (itE (cst v_FLAG_BITS)) (tE (idx (a41' l0') l4')) l5')))) (sq (asg n2' (add (add (cal F_number_octets [loc n1', cst i1']) (cal F_bridge_octets [a43' l0'])) (cal F_number_octets [a15' l0', cst i4']))) (sq (forS (aN n3') (itE (tupE [shr (a42' l0') c8', a44' l0', a18' l0'])) (asg n2' (add l2' (cal F_number_octets [loc n3', cst i1'])))) (retS l2')))
def F_row_octets : DF := fnD (nat_lit 5) D_row_octets
def D_tail_octets : DS := sq (asg n1' (add (add (add (a45' l0') (cal F_number_octets [a15' l0', cst i4'])) (cal F_bridge_octets [a9' l0'])) (cal F_number_octets [a18' l0', cst i1']))) (retS (add l1' (mJoin (lcomp n2' (itE (a46' l0')) (tT) (cal F_row_octets [loc n2'])))))
def F_tail_octets : DF := fnD (nat_lit 2) D_tail_octets
def D_tree_tail : DS := sq (asg n2' (a24' (idx (a16' (a7' l0')) l1'))) (sq (asg n3' (lcomp n4' (itE (mcal [(n14', F_MstBridge_instance_trees)] l0' [])) (tT) (cal F_tree_row [loc n0', loc n4', loc n1']))) (retS (cal F_tail_octets [mk n9' n9' F_TreeTail___init__ [a47' l0', idx l2' c3', a9' (a7' l0'), bMax c0' (a18' (a7' l0')), loc n3']])))
def F_tree_tail : DF := fnD (nat_lit 3) D_tree_tail
def D_Bpdu___init__ : DS := sq (seta [n6'] n5' l0' l1') (sq (seta [n6'] n0' l0' l2') (sq (seta [n6', n10', n12', n13'] n2' l0' l3') (sq (seta [n6', n14'] n3' l0' l4') (sq (seta [n6'] n6' l0' l5') (sq (seta [n6'] n11' l0' l6') (sq (seta [n6'] n10' l0' l7') (sq (seta [n6'] n7' l0' l8') (sq (seta [n6', n8', n10', n12'] n1' l0' l9') (sq (seta [n6'] n9' l0' l10') (sq (seta [n6'] n8' l0' l11') (seta [n6'] n4' l0' l12')))))))))))
def F_Bpdu___init__ : DF := fnD (nat_lit 0) D_Bpdu___init__
def D_made_bpdu : DS := sq (asgT [aN n4', aN n5'] (tupE [mcal [(n14', F_MstBridge_side)] l0' [loc n1'], idx (a16' (a7' l0')) l1'])) (sq (asgT [aN n6', aN n7', aN n8', aN n9', aN n10', aN n11'] (a24' l5')) (sq (asgT [aN n12', aN n13'] (tupE [tupE [loc n6', loc n7', loc n8', loc n11'], cal F_told_flags [loc n5']])) (sq (asg n2' (mk n5' n10' F_Times___init__ [a17' (a7' l0'), a48' (a34' l0'), a35' (a34' l0'), a33' (a34' l0')])) (sq (iff (tcmp .eq (a20' l4') cs16') (badS n103') skip) (sq (asgT [aN n14', aN n15'] (tupE [idx (cst v_TOLD_ROLES) (a21' l5'), vT (tcmp .eq (a20' l4') cs2')])) (sq (asg n3' (ife (tE l15') (cal F_tree_tail [loc n0', loc n1']) (cst (.bytes [])))) (retS (mk n6' n12' F_Bpdu___init__ [ife (tE l15') c3' c2', cst s17', loc n12', loc n2', idx l13' cs11', cst (.bool false), idx l13' cs12', idx l13' cs15', loc n14', idx l13' cs13', idx l13' cs14', loc n3']))))))))
def F_made_bpdu : DF := fnD (nat_lit 14) D_made_bpdu
def D_send_waiting : DS := forS (aN n1') (itE (mcal [(n7', F_Region_numbers), (n14', F_MstBridge_numbers)] l0' [])) (sq (asg n2' (mcal [(n14', F_MstBridge_side)] l0' [loc n1'])) (iff (tand (tE (a22' l2')) (tand (tE (a49' l2')) (tcmp .lt (a50' l2') (a51' l0')))) (sq (seta [n11'] n6' l2' cF') (sq (asg n3' (cal F_made_bpdu [loc n0', loc n1'])) (iff (tnot (tisN l3')) (sq (seta [n11'] n5' l2' (add (a50' l2') c1')) (sq (seta [n11'] n8' l2' cF') (exq (mAppend (a52' l0') (tupE [loc n1', loc n3']))))) skip))) skip))
def F_send_waiting : DF := fnD (nat_lit 3) D_send_waiting
def D_MstBridge_settle : DS := sq (forS (aN n1') (itR1 (cst v_MOST_TURNS)) (iff (tnot (tE (mcal [(n14', F_MstBridge_step)] l0' []))) (sq (exq (cal F_send_waiting [loc n0'])) (retS cN')) skip)) (badS n103')
def F_MstBridge_settle : DF := fnD (nat_lit 1) D_MstBridge_settle
def D_MstBridge___init__ : DS := sq (iff (tcmp .ne (mod (idx l1' c0') c4096') c0') (badS n103') skip) (sq (seta [n6', n14'] n3' l0' l3') (sq (seta [n14'] n7' l0' l5') (sq (seta [n14'] n5' l0' l7') (sq (seta [n9', n14'] n4' l0' l4') (sq (seta [n14'] n6' l0' (mcal [(n7', F_Region_octets)] l4' [])) (sq (seta [n14'] n0' l0' (dcomp n11' (itE l2') (tT) (a8' l11') (mk n11' n10' F_PortSide___init__ [loc n11']))) (sq (seta [n14'] n1' l0' (dctE [i0'] [mk n13' n10' F_TreeSide___init__ [cst i0', loc n1', mcal [(n7', F_Region_numbers), (n14', F_MstBridge_numbers)] l0' []]])) (sq (asg n8' (ife (tisN l6') (dctV [] []) l6')) (sq (forS (aN n9') (itE (mcal [(n7', F_Region_numbers), (n14', F_MstBridge_numbers)] l4' [])) (sq (asg n10' (tupE [add (mGet2 l8' l9' (idx l1' c0')) l9', idx l1' c1'])) (sets (a6' l0') l9' (mk n13' n10' F_TreeSide___init__ [loc n9', loc n10', mcal [(n7', F_Region_numbers), (n14', F_MstBridge_numbers)] l0' []])))) (sq (seta [n14'] n2' l0' (idx (a6' l0') c0')) (sq (seta [n14'] n8' l0' (lstE [])) (exq (mcal [(n14', F_MstBridge_settle)] l0' [])))))))))))))
def F_MstBridge___init__ : DF := fnD (nat_lit 4) D_MstBridge___init__
def D_PortSide_begin : DS := sq (seta [n11'] n2' l0' cT') (sq (seta [n11', n15'] n4' l0' (a3' (a13' l0'))) (sq (seta [n10', n11'] n0' l0' cF') (sq (seta [n11'] n3' l0' cs2') (sq (seta [n11'] n6' l0' cT') (sq (seta [n11'] n5' l0' c0') (sq (seta [n11'] n7' l0' c0') (sq (seta [n11'] n9' l0' c3') (seta [n11'] n8' l0' cF'))))))))
def F_PortSide_begin : DF := fnD (nat_lit 0) D_PortSide_begin
def D_MstBridge_link_up : DS := sq (exq (mcal [(n11', F_PortSide_begin)] (idx (a5' l0') l1') [])) (sq (forS (aN n2') (itE (mcal [(n14', F_MstBridge_all_trees)] l0' [])) (sq (exq (mcal [(n12', F_TreePort_clear)] (idx (a16' l2') l1') [])) (sq (seta [n12'] n3' (idx (a16' l2') l1') cs18') (seta [n12'] n14' (idx (a16' l2') l1') (mcal [(n14', F_MstBridge_delay)] l0' []))))) (exq (mcal [(n14', F_MstBridge_settle)] l0' [])))
def F_MstBridge_link_up : DF := fnD (nat_lit 1) D_MstBridge_link_up
def D_note_sort : DS := sq (seta [n11', n15'] n4' l0' cF') (sq (iff (tand (tcmp .gt (a53' l0') c0') (tcmp .eq (a54' l1') cs19')) (badS n103') skip) (seta [n11'] n3' l0' (ife (tcmp .eq (a54' l1') cs19') cs16' (ife (tcmp .lt (a55' l1') c3') cs17' cs2'))))
def F_note_sort : DF := fnD (nat_lit 0) D_note_sort
def D_octets_number : DS := sq (asg n1' c0') (sq (forS (aN n2') (itE l0') (asg n1' (bor (shl l1' c8') l2'))) (retS l1'))
def F_octets_number : DF := fnD (nat_lit 2) D_octets_number
def D_read_bridge : DS := retS (tupE [cal F_octets_number [slc l0' cN' c2'], cal F_octets_number [slc l0' c2' c8']])
def F_read_bridge : DF := fnD (nat_lit 0) D_read_bridge
def D_read_row : DS := sq (asg n1' (dcomp2 n7' n8' (itE (cst v_FLAG_BITS)) (tT) l7' (vT (tcmp .ne (band (idx l0' c0') l8') c0')))) (sq (asgT [aN n3', aN n4'] (tupE [cal F_read_bridge [slc l0' c1' c9'], cal F_octets_number [slc l0' c9' c13']])) (sq (asg n2' (idx (cst v_TREE_ROLES) (band (shr (idx l0' c0') c2') c3'))) (sq (asgT [aN n5', aN n6'] (tupE [shl (band (idx l0' c13') c240') c8', band (idx l0' c14') c240'])) (retS (mk n8' n9' F_TreeRow___init__ [band (idx l3' c0') c4095', loc n3', loc n4', loc n5', loc n6', idx l0' c15', loc n2', loc n1'])))))
def F_read_row : DF := fnD (nat_lit 8) D_read_row
def D_read_tree_tail : DS := sq (asgT [aN n4', aN n5'] (bDivmod (sub (bLen strLen l0') (cst v_HEAD_SIZE)) (cst v_ROW_SIZE))) (sq (iff (tor (tcmp .lt (bLen strLen l0') (cst v_HEAD_SIZE)) (tor (tcmp .ne l5' c0') (tcmp .ne (idx l0' c0') c0'))) (badS n103') skip) (sq (asg n1' (lcomp n8' (itR1 l4') (tT) (cal F_read_row [slc l0' (add (cst v_HEAD_SIZE) (mul (cst v_ROW_SIZE) l8')) (add (cst v_HEAD_SIZE) (mul (cst v_ROW_SIZE) (add l8' c1')))]))) (sq (asg n2' (lcomp n9' (itE l1') (tT) (a56' l9'))) (sq (iff (tcmp .ne l2' (bSorted (dcomp n10' (itE l2') (tT) l10' cT'))) (badS n103') skip) (sq (asg n3' (cst v_REGION_SIZE)) (sq (asgT [aN n6', aN n7'] (tupE [cal F_octets_number [slc l0' l3' (add l3' c4')], cal F_read_bridge [slc l0' (add l3' c4') (add l3' c12')]])) (retS (mk n9' n9' F_TreeTail___init__ [bBytes (slc l0' cN' l3'), loc n6', loc n7', idx l0' (add l3' c12'), loc n1']))))))))
def F_read_tree_tail : DF := fnD (nat_lit 10) D_read_tree_tail
def D_same_region : DS := retS (vand (vT (tcmp .eq (bLen strLen l0') (cst v_REGION_SIZE))) (vT (tcmp .eq (bBytes l0') (bBytes l1'))))
def F_same_region : DF := fnD (nat_lit 0) D_same_region
def D_tail_heard : DS := sq (iff (tor (tcmp .lt (a55' l1') c3') (tcmp .ne (a54' l1') cs17')) (retS cN') skip) (sq (asg n2' (cal F_read_tree_tail [a57' l1'])) (retS (ife (tE (cal F_same_region [a45' l2', a47' l0'])) l2' cN')))
def F_tail_heard : DF := fnD (nat_lit 1) D_tail_heard
def D_turn_internal : DS := sq (asg n3' (mcal [(n14', F_MstBridge_side)] l0' [loc n1'])) (sq (iff (tcmp .eq (a12' l3') l2') (retS cN') skip) (sq (seta [n10', n11'] n0' l3' l2') (forS (aN n4') (itE (mcal [(n14', F_MstBridge_instance_trees)] l0' [])) (sq (exq (mcal [(n12', F_TreePort_clear)] (idx (a16' l4') l1') [])) (sq (seta [n12'] n3' (idx (a16' l4') l1') cs18') (seta [n12'] n14' (idx (a16' l4') l1') (mcal [(n14', F_MstBridge_delay)] l0' [])))))))
def F_turn_internal : DF := fnD (nat_lit 2) D_turn_internal
def D_hear_agreement : DS := iff (tand (tE (idx (a41' l3') cs15')) (tE (badE n104'))) (badS n103') (seta [n12'] n12' l2' cF')
def F_hear_agreement : DF := fnD (nat_lit 0) D_hear_agreement
def D_life_of : DS := sq (asg n4' (ife (tE l2') (vT (tcmp .gt (a18' l1') c1')) (vT (tcmp .le (add (a17' l1') c1') (a48' l3'))))) (retS (ife (tE l4') (mul (cst v_HELLOS_KEPT) (a35' l3')) c0'))
def F_life_of : DF := fnD (nat_lit 1) D_life_of
def D_keep_told : DS := sq (asgT [aA [n5', n10', n12', n13'] n9' l1', aA [n8', n9', n10', n12', n13'] n8' l1'] (tupE [a17' l2', a18' l2'])) (sq (seta [n12'] n20' l1' (cal F_life_of [loc n0', loc n1', a12' l2', loc n3'])) (iff (tcmp .eq (a58' l1') c0') (badS n103') skip))
def F_keep_told : DF := fnD (nat_lit 0) D_keep_told
def D_hear_better : DS := sq (asgT [aA [n12'] n12' l2', aA [n12'] n17' l2'] (tupE [cst (.bool false), cst (.bool false)])) (sq (iff (tE (idx (a41' l3') cs12')) (badS n103') skip) (sq (seta [n12'] n15' l2' (vand (a32' l2') (vand (vT (tcmp .eq (a10' l2') cs4')) (vT (tcmp .le (a11' l3') (a11' l2')))))) (sq (exq (cal F_hear_agreement [loc n0', loc n1', loc n2', loc n3', loc n4'])) (sq (seta [n12'] n5' l2' (vand (a26' l2') (a25' l2'))) (sq (asgT [aA [n6', n10', n12', n13'] n2' l2', aA [n12'] n3' l2'] (tupE [a11' l3', cst s4'])) (exq (cal F_keep_told [loc n0', loc n2', loc n3', a34' l4'])))))))
def F_hear_better : DF := fnD (nat_lit 0) D_hear_better
def D_hear_worse : DS := iff (tE (idx (a41' l3') cs13')) (badS n103') skip
def F_hear_worse : DF := fnD (nat_lit 0) D_hear_worse
def D_hear_tree : DS := sq (iff (tand (tE (idx (a41' l3') cs11')) (tin (a21' l2') (cst v_CHANGE_ROLES))) (badS n103') skip) (iff (tcmp .eq (a21' l3') cs7') (sq (asg n5' (vand (vT (tcmp .eq (a10' l2') cs4')) (vT (tcmp .eq (a11' l3') (a11' l2'))))) (iff (tand (tE l5') (tcmp .eq (tupE [a17' l2', a18' l2']) (tupE [a17' l3', a18' l3']))) (badS n103') (iff (tor (tE l5') (tor (tisN (a11' l2')) (tE (cal F_takes_over [a11' l3', a11' l2'])))) (exq (cal F_hear_better [loc n0', loc n1', loc n2', loc n3', loc n4'])) (exq (cal F_hear_worse [loc n0', loc n1', loc n2', loc n3']))))) (badS n103'))
def F_hear_tree : DF := fnD (nat_lit 1) D_hear_tree
def D_TreeTelling___init__ : DS := sq (seta [n6', n10', n12', n13'] n2' l0' l1') (sq (seta [n5', n10', n12', n13'] n9' l0' l2') (sq (seta [n8', n9', n10', n12', n13'] n8' l0' l3') (sq (seta [n10', n11'] n0' l0' l4') (sq (seta [n6', n8', n10', n12'] n1' l0' l5') (seta [n8', n10'] n3' l0' l6')))))
def F_TreeTelling___init__ : DF := fnD (nat_lit 0) D_TreeTelling___init__
def D_cist_flags : DS := retS (dctV [s11', s12', s13', s14', s15'] [a59' l0', a60' l0', a61' l0', a62' l0', a63' l0'])
def F_cist_flags : DF := fnD (nat_lit 0) D_cist_flags
def D_cist_telling : DS := sq (asg n2' (vT (tnot (tisN l1')))) (sq (asg n3' (cal F_cist_told [a11' l0', loc n1', loc n2'])) (sq (asg n4' (ife (tcmp .eq (a54' l0') cs19') cs7' (a21' l0'))) (retS (mk n10' n10' F_TreeTelling___init__ [loc n3', a17' (a34' l0'), ife (tE l2') (a18' l1') c0', loc n2', loc n4', cal F_cist_flags [loc n0']]))))
def F_cist_telling : DF := fnD (nat_lit 3) D_cist_telling
def D_TreeRow_vector : DS := sq (asg n3' (tupE [add (a42' l0') (a56' l0'), loc n1'])) (retS (tupE [a43' l0', a15' l0', loc n3', tupE [a44' l0', loc n2']]))
def F_TreeRow_vector : DF := fnD (nat_lit 1) D_TreeRow_vector
def D_row_telling : DS := sq (asg n3' (mcal [(n8', F_TreeRow_vector)] l2' [idx (a9' l1') c1', idx (idx (a11' l0') c3') c1'])) (retS (mk n10' n10' F_TreeTelling___init__ [loc n3', a17' (a34' l0'), a18' l2', cst (.bool true), a21' l2', a41' l2']))
def F_row_telling : DF := fnD (nat_lit 1) D_row_telling
def D_hear_bpdu : DS := sq (asg n3' (mcal [(n14', F_MstBridge_side)] l0' [loc n1'])) (sq (iff (tcmp .eq (a54' l2') cs11') (badS n103') skip) (sq (exq (cal F_note_sort [loc n3', loc n2'])) (sq (asg n4' (cal F_tail_heard [loc n0', loc n2'])) (sq (exq (cal F_turn_internal [loc n0', loc n1', vT (tnot (tisN l4'))])) (sq (exq (cal F_hear_tree [loc n0', a7' l0', idx (a16' (a7' l0')) l1', cal F_cist_telling [loc n2', loc n4'], loc n2'])) (sq (forS (aN n5') (itE (ife (tnot (tisN l4')) (a46' l4') (lstV []))) (iff (tin (a56' l5') (a6' l0')) (sq (asg n6' (idx (a6' l0') (a56' l5'))) (exq (cal F_hear_tree [loc n0', loc n6', idx (a16' l6') l1', cal F_row_telling [loc n2', loc n4', loc n5'], loc n2']))) skip)) (iff (tand (tisN l4') (tand (tE (a59' l2')) (tin (a21' (idx (a16' (a7' l0')) l1')) (cst v_CHANGE_ROLES)))) (badS n103') skip)))))))
def F_hear_bpdu : DF := fnD (nat_lit 4) D_hear_bpdu
def D_MstBridge_receive : DS := iff (tE (a22' (idx (a5' l0') l1'))) (sq (exq (cal F_hear_bpdu [loc n0', loc n1', loc n2'])) (exq (mcal [(n14', F_MstBridge_settle)] l0' []))) skip
def F_MstBridge_receive : DF := fnD (nat_lit 0) D_MstBridge_receive
def D_no_flags : DS := retS (dcomp2 n0' n1' (itE (cst v_FLAG_BITS)) (tT) l0' cF')
def F_no_flags : DF := fnD (nat_lit 2) D_no_flags
def D__law_heard : DS := sq (asgT [aN n9', aN n10'] (tupE [tupE [loc n3', cst i50'], mk n5' n10' F_Times___init__ [cst i0', cst i20', cst i2', cst i15']])) (sq (asg n4' (tupE [loc n9', cst i0', loc n9', tupE [cst i128', cst i1']])) (sq (iff (tcmp .eq l0' c2') (retS (mk n6' n12' F_Bpdu___init__ (fill cst [none, none, none, none, some (.bool false), some (.bool false), some (.bool false), some (.bool false), none, some (.bool false), some (.bool false), some (.bytes [])] ([cst i2', cst s17', loc n4', loc n10'] ++ [cst s7'])))) skip) (sq (asg n5' (lstE [])) (sq (forS (aN n6') (itE l2') (exq (mAppend l5' (mk n8' n9' F_TreeRow___init__ [loc n6', tupE [add l3' l6', cst i50'], cst i0', loc n3', cst i128', cst i20', cst s7', cal F_no_flags []])))) (sq (asg n7' (ife (tcmp .eq l0' c0') (mcal [(n7', F_Region_octets)] l1' []) (mcal [(n7', F_Region_octets)] (mk n7' n4' F_Region___init__ [cst s20', cst i1', dctV [] [], bBytes c16']) []))) (sq (asg n8' (cal F_tail_octets [mk n9' n9' F_TreeTail___init__ [loc n7', cst i0', loc n9', cst i20', ife (tcmp .eq l0' c0') l5' (lstE [])]])) (retS (mk n6' n12' F_Bpdu___init__ (fill cst [none, none, none, none, some (.bool false), some (.bool false), some (.bool false), some (.bool false), none, some (.bool false), some (.bool false), none] ([cst i3', cst s17', loc n4', loc n10'] ++ [cst s7', loc n8']))))))))))
def F__law_heard : DF := fnD (nat_lit 7) D__law_heard
def D_Times_told : DS := retS (tupE [a17' l0', a48' l0', a35' l0', a33' l0'])
def F_Times_told : DF := fnD (nat_lit 0) D_Times_told
def D_Bpdu_flags : DS := sq (asg n1' (add (bInt (a59' l0')) (mul c128' (bInt (a64' l0'))))) (sq (iff (tcmp .ne (a54' l0') cs17') (badS n103') skip) (sq (asg n1' (add (add (add l1' (mul c2' (bInt (a60' l0')))) (mul c4' (mIndex (cst v_ROLES) (a21' l0')))) (mul c16' (bInt (a61' l0'))))) (retS (add (add l1' (mul c32' (bInt (a62' l0')))) (mul c64' (bInt (a63' l0')))))))
def F_Bpdu_flags : DF := fnD (nat_lit 1) D_Bpdu_flags
def D_Bpdu_told : DS := sq (asg n1' (ife (tisN (a34' l0')) cN' (mcal [(n5', F_Times_told)] (a34' l0') []))) (sq (asg n2' (tupE [a55' l0', a54' l0', a11' l0', loc n1'])) (retS (add l2' (ife (tcmp .ne (a54' l0') cs11') (tupE [mcal [(n6', F_Bpdu_flags)] l0' [], a57' l0']) (tupE [])))))
def F_Bpdu_told : DF := fnD (nat_lit 2) D_Bpdu_told
def D_kind_of : DS := sq (forS (aN n1') (itE (cst v_KINDS)) (iff (tcmp .eq (idx (cst v_KINDS) l1') l0') (retS l1') skip)) (badS n103')
def F_kind_of : DF := fnD (nat_lit 1) D_kind_of
def D_read_port : DS := sq (asg n1' (cal F_octets_number [slc l0' cN' c2'])) (retS (tupE [shl (shr l1' c12') c4', band l1' c4095']))
def F_read_port : DF := fnD (nat_lit 1) D_read_port
def D_read_vector : DS := retS (tupE [cal F_read_bridge [loc n0'], cal F_octets_number [slc l0' c8' c12'], cal F_read_bridge [slc l0' c12' cN'], cal F_read_port [slc l0' c20' c22']])
def F_read_vector : DF := fnD (nat_lit 0) D_read_vector
def D_read_times : DS := sq (asgT [aN n1', aN n2', aN n3', aN n4'] (lcomp n5' (itE (tupE [cst i0', cst i2', cst i4', cst i6'])) (tT) (shr (cal F_octets_number [slc l0' l5' (add l5' c2')]) c8'))) (retS (mk n5' n10' F_Times___init__ [loc n1', loc n2', loc n3', loc n4']))
def F_read_times : DF := fnD (nat_lit 5) D_read_times
def D_read_tail : DS := sq (iff (tcmp .lt (bLen strLen l0') (add (cst v_RAPID_SIZE) c2')) (badS n103') skip) (sq (asg n1' (cal F_octets_number [slc l0' (cst v_RAPID_SIZE) (add (cst v_RAPID_SIZE) c2')])) (sq (asg n2' (slc l0' (add (cst v_RAPID_SIZE) c2') (add (add (cst v_RAPID_SIZE) c2') l1'))) (retS (ife (tcmp .eq (bLen strLen l2') l1') l2' cN'))))
def F_read_tail : DF := fnD (nat_lit 2) D_read_tail
def D_unpack_bpdu : DS := sq (iff (tor (tcmp .lt (bLen strLen l0') (cst v_CHANGE_SIZE)) (tcmp .ne (cal F_octets_number [slc l0' cN' c2']) c0')) (badS n103') skip) (sq (asgT [aN n2', aN n3'] (tupE [cal F_kind_of [idx l0' c3'], bMin (idx l0' c2') (cst v_KNOWN)])) (sq (iff (tcmp .eq l2' cs11') (badS n103') skip) (sq (iff (tcmp .lt (bLen strLen l0') (ife (tcmp .eq l2' cs19') (cst v_CONFIG_SIZE) (cst v_RAPID_SIZE))) (badS n103') skip) (sq (asgT [aN n4', aN n5', aN n6'] (tupE [idx l0' c4', cal F_read_vector [slc l0' c5' c27'], cal F_read_times [slc l0' c27' c35']])) (sq (iff (tcmp .eq l2' cs19') (badS n103') skip) (sq (iff (tor (tcmp .lt l3' c2') (tcmp .ne (idx l0' c35') c0')) (badS n103') skip) (sq (asg n1' (ife (tcmp .eq l3' c3') (cal F_read_tail [loc n0']) cN')) (retS (mk n6' n12' F_Bpdu___init__ [ife (tisN l1') c2' c3', loc n2', loc n5', loc n6', vT (tcmp .eq (band l4' c1') c1'), vT (tcmp .eq (band l4' c128') c128'), vT (tcmp .eq (band l4' c2') c2'), vT (tcmp .eq (band l4' c64') c64'), idx (cst v_ROLES) (band (shr l4' c2') c3'), vT (tcmp .eq (band l4' c16') c16'), vT (tcmp .eq (band l4' c32') c32'), ife (tisN l1') (cst (.bytes [])) l1'])))))))))
def F_unpack_bpdu : DF := fnD (nat_lit 6) D_unpack_bpdu
def D_port_octets : DS := sq (asgT [aN n1', aN n2'] l0') (sq (iff (tor (tcmp .ne (mod l1' c16') c0') (tor (tnot (tcmp3 .le .le c0' l1' c240')) (tnot (tcmp3 .le .lt c0' l2' c4096')))) (badS n103') skip) (retS (cal F_number_octets [bor (shl l1' c8') l2', cst i2'])))
def F_port_octets : DF := fnD (nat_lit 2) D_port_octets
def D_vector_octets : DS := sq (asgT [aN n1', aN n2', aN n3', aN n4'] l0') (retS (add (add (add (cal F_bridge_octets [loc n1']) (cal F_number_octets [loc n2', cst i4'])) (cal F_bridge_octets [loc n3'])) (cal F_port_octets [loc n4'])))
def F_vector_octets : DF := fnD (nat_lit 4) D_vector_octets
def D_times_octets : DS := sq (asg n1' (cst (.bytes []))) (sq (forS (aN n2') (itE (mcal [(n5', F_Times_told), (n6', F_Bpdu_told)] l0' [])) (asg n1' (add l1' (cal F_number_octets [mul c256' l2', cst i2'])))) (retS l1'))
def F_times_octets : DF := fnD (nat_lit 2) D_times_octets
def D_pack_bpdu : DS := sq (asg n1' (add (cal F_number_octets [cst i0', cst i2']) (bBytes (lstV [a55' l0', idx (cst v_KINDS) (a54' l0')])))) (sq (iff (tcmp .eq (a54' l0') cs11') (badS n103') skip) (sq (asg n2' (add (add (add l1' (bBytes (lstV [mcal [(n6', F_Bpdu_flags)] l0' []]))) (cal F_vector_octets [a11' l0'])) (cal F_times_octets [a34' l0']))) (sq (iff (tcmp .eq (a54' l0') cs19') (badS n103') skip) (sq (asg n2' (add l2' (bBytes c1'))) (retS (ife (tcmp .lt (a55' l0') c3') l2' (add (add l2' (cal F_number_octets [bLen strLen (a57' l0'), cst i2'])) (a57' l0'))))))))
def F_pack_bpdu : DF := fnD (nat_lit 2) D_pack_bpdu
def D__law_told_right : DS := sq (asg n5' (cal F_made_bpdu [loc n0', loc n3'])) (sq (iff (tcmp .ne (mcal [(n5', F_Times_told), (n6', F_Bpdu_told)] (cal F_unpack_bpdu [cal F_pack_bpdu [loc n5']]) []) (mcal [(n5', F_Times_told), (n6', F_Bpdu_told)] l5' [])) (badS n103') skip) (sq (asg n6' (a24' (idx (a16' (a7' l0')) l3'))) (sq (iff (tor (tcmp .ne (a11' l5') (add (slc l6' cN' c3') (slc l6' c5' cN'))) (tcmp .ne (a55' l5') (ife (tE l4') c2' c3'))) (badS n103') skip) (sq (iff (tE l4') (retS (vand (vT (tcmp .eq (a57' l5') (cst (.bytes [])))) (vT (tcmp .eq (idx (a11' l5') c2') (a9' (a7' l0')))))) skip) (sq (asg n7' (cal F_read_tree_tail [a57' l5'])) (sq (iff (tcmp .ne (tupE [a45' l7', a15' l7', a9' l7', a18' l7']) (tupE [mcal [(n7', F_Region_octets)] l1' [], idx l6' c3', tupE [cst i8192', cst i20'], a18' (a7' l0')])) (badS n103') skip) (sq (iff (tcmp .ne (lcomp n11' (itE (a46' l7')) (tT) (a56' l11')) l2') (badS n103') skip) (sq (forS (aN n8') (itE (a46' l7')) (sq (asg n9' (idx (a16' (idx (a6' l0') (a56' l8'))) l3')) (sq (iff (tor (tcmp .ne (mcal [(n8', F_TreeRow_vector)] l8' [cst i20', loc n3']) (a24' l9')) (tcmp .ne (a21' l8') (mStr strRep (a21' l9')))) (badS n103') skip) (sq (asg n10' (lstV [vT (tcmp .gt (a40' l9') c0'), a39' l9', a27' l9', a28' l9', a32' l9'])) (iff (tcmp .ne (lcomp n12' (itE (lstV [cst s11', cst s12', cst s13', cst s14', cst s15'])) (tT) (idx (a41' l8') l12')) l10') (badS n103') skip))))) (retS cT')))))))))
def F__law_told_right : DF := fnD (nat_lit 8) D__law_told_right
def D_law : DS := sq (asg (nat_lit 1) (cal F__law_pool [loc (nat_lit 0), lstE [cst (.int (.ofNat (nat_lit 1))), cst (.int (.ofNat (nat_lit 0))), cst (.int (.ofNat (nat_lit 5))), cst (.int (.ofNat (nat_lit 6))), cst (.int (.ofNat (nat_lit 3))), cst (.int (.ofNat (nat_lit 0))), cst (.int (.ofNat (nat_lit 0)))]])) (sq (iff (tnot (tE (cal F__law_vectors_right [loc (nat_lit 1)]))) (badS (nat_lit 103)) (skip)) (sq (asg (nat_lit 2) (ife (tand (tcmp .gt (bLen strLen (loc (nat_lit 0))) (cst (.int (.ofNat (nat_lit 1))))) (tcmp .eq (cal F__law_take [loc (nat_lit 1), cst (.int (.ofNat (nat_lit 2)))]) (cst (.int (.ofNat (nat_lit 0)))))) (lstV [cst (.int (.ofNat (nat_lit 2))), cst (.int (.ofNat (nat_lit 7)))]) (lstV [cst (.int (.ofNat (nat_lit 2)))]))) (sq (asg (nat_lit 3) (mk (nat_lit 7) (nat_lit 4) F_Region___init__ [cst (.str (nat_lit 0)), cst (.int (.ofNat (nat_lit 3))), dcomp (nat_lit 9) (itE (loc (nat_lit 2))) (tT) (add (loc (nat_lit 9)) (cst (.int (.ofNat (nat_lit 100))))) (loc (nat_lit 9)), bBytes (rep (lstV [cst (.int (.ofNat (nat_lit 9)))]) (nat_lit 16))])) (sq (asg (nat_lit 4) (lcomp (nat_lit 10) (itR2 (cst (.int (.ofNat (nat_lit 1)))) (ife (tcmp .gt (bLen strLen (loc (nat_lit 0))) (cst (.int (.ofNat (nat_lit 1))))) (cst (.int (.ofNat (nat_lit 3)))) (cst (.int (.ofNat (nat_lit 2)))))) (tT) (mk (nat_lit 15) (nat_lit 5) F_PortRow___init__ (fill cst [none, none, none, some (.bool false), some (.bool true)] ([loc (nat_lit 10), cst (.int (.ofNat (nat_lit 128))), mul (cst (.int (.ofNat (nat_lit 10)))) (loc (nat_lit 10))] ++ []))))) (sq (asgT [aN (nat_lit 6), aN (nat_lit 7)] (tupE [mk (nat_lit 14) (nat_lit 9) F_MstBridge___init__ (fill cst [none, none, none, none, some (.int (.ofNat (nat_lit 6))), some .none, some (.int (.ofNat (nat_lit 20)))] ([tupE [cst (.int (.ofNat (nat_lit 8192))), cst (.int (.ofNat (nat_lit 20)))], loc (nat_lit 4), mk (nat_lit 5) (nat_lit 10) F_Times___init__ [cst (.int (.ofNat (nat_lit 0))), cst (.int (.ofNat (nat_lit 20))), cst (.int (.ofNat (nat_lit 2))), cst (.int (.ofNat (nat_lit 15)))], loc (nat_lit 3)] ++ [])), dctE [] []])) (sq (forS (aN (nat_lit 5)) (itE (loc (nat_lit 4))) (sq (exq (mcal [((nat_lit 14), F_MstBridge_link_up)] (loc (nat_lit 6)) [att [nat_lit 12, nat_lit 13, nat_lit 15] (nat_lit 0) (loc (nat_lit 5))])) (sq (sets (loc (nat_lit 7)) (att [nat_lit 12, nat_lit 13, nat_lit 15] (nat_lit 0) (loc (nat_lit 5))) (cal F__law_take [loc (nat_lit 1), cst (.int (.ofNat (nat_lit 4)))])) (iff (tcmp .lt (idx (loc (nat_lit 7)) (att [nat_lit 12, nat_lit 13, nat_lit 15] (nat_lit 0) (loc (nat_lit 5)))) (cst (.int (.ofNat (nat_lit 3))))) (sq (asg (nat_lit 8) (cal F__law_one [loc (nat_lit 1), lstV [cst (.int (.ofNat (nat_lit 4096))), cst (.int (.ofNat (nat_lit 12288)))]])) (exq (mcal [((nat_lit 14), F_MstBridge_receive)] (loc (nat_lit 6)) [att [nat_lit 12, nat_lit 13, nat_lit 15] (nat_lit 0) (loc (nat_lit 5)), cal F__law_heard [idx (loc (nat_lit 7)) (att [nat_lit 12, nat_lit 13, nat_lit 15] (nat_lit 0) (loc (nat_lit 5))), loc (nat_lit 3), loc (nat_lit 2), loc (nat_lit 8)]]))) (skip))))) (sq (forS (aN (nat_lit 5)) (itE (loc (nat_lit 4))) (iff (tnot (tE (cal F__law_told_right [loc (nat_lit 6), loc (nat_lit 3), loc (nat_lit 2), att [nat_lit 12, nat_lit 13, nat_lit 15] (nat_lit 0) (loc (nat_lit 5)), vT (tcmp .eq (idx (loc (nat_lit 7)) (att [nat_lit 12, nat_lit 13, nat_lit 15] (nat_lit 0) (loc (nat_lit 5)))) (cst (.int (.ofNat (nat_lit 2)))))]))) (badS (nat_lit 103)) (skip))) (retS (cst (.bool true))))))))))
def F_law : DF := fnD (nat_lit 10) D_law
end
end Mine
end
section
namespace Mine
noncomputable section
section
variable {ρ : Env} {s s1 s2 s3 : St} {x y z : V}
theorem f_tcmp {op : Cmp} {a b : DE} (ha : a ρ s = .ok x s1) (hb : b ρ s1 = .ok y s2) : tcmp op a b ρ s = cmpS op x y s2 := by
 show (R.rec (fun x s => R.rec (fun y s => cmpS op x y s) .bad (b ρ s)) .bad (a ρ s) : R Bool) = _
 rw [ha]
 show (R.rec (fun y s => cmpS op x y s) .bad (b ρ s1) : R Bool) = _
 rw [hb]
theorem f_iff {t : DT} {a b : DS} {v : Bool} (h : t ρ s = .ok v s1) : iff t a b ρ s = (Bool.rec (b ρ s1) (a ρ s1) v : RS) := by
 show (R.rec (fun v s => Bool.rec (b ρ s) (a ρ s) v) .bad (t ρ s) : RS) = _
 rw [h]
theorem f_sq {a b : DS} {ρ' : Env} (h : a ρ s = .next ρ' s1) : sq a b ρ s = b ρ' s1 := by
 show (RS.rec (fun ρ s => b ρ s) (fun v s => .ret v s) (fun ρ s => .cont ρ s) .bad (a ρ s) : RS) = _
 rw [h]
theorem f_sqr {a b : DS} {v : V} (h : a ρ s = .ret v s1) : sq a b ρ s = .ret v s1 := by
 show (RS.rec (fun ρ s => b ρ s) (fun v s => .ret v s) (fun ρ s => .cont ρ s) .bad (a ρ s) : RS) = _
 rw [h]
theorem f_asg {k : Nat} {e : DE} (h : e ρ s = .ok x s1) : asg k e ρ s = .next (setE k x ρ) s1 := by
 show (R.rec (fun v s => .next (setE k v ρ) s) .bad (e ρ s) : RS) = _
 rw [h]
theorem f_ret {e : DE} (h : e ρ s = .ok x s1) : retS e ρ s = .ret x s1 := by
 show (R.rec (fun v s => .ret v s) .bad (e ρ s) : RS) = _
 rw [h]
theorem f_evs0 : evs [] ρ s = .ok [] s := rfl
theorem f_cal {F : DF} {es : List DE} {vs : List V} (h : evs es ρ s = .ok vs s1) : cal F es ρ s = F vs s1 := by
 show (R.rec (fun v s => F v s) .bad (evs es ρ s) : R V) = _
 rw [h]
theorem f_mod {a b : DE} {i : Int} {k : Nat} (hk : k ≠ 0) (ha : a ρ s = .ok (.int i) s1) (hb : b ρ s1 = .ok (.int (.ofNat k)) s2) : mod a b ρ s = .ok (.int (Int.fmod i k)) s2 := by
 show (R.rec (fun x s => R.rec (fun y s => onI x (.bad 7) fun i => onI y (.bad 7) fun j => Int.rec (fun n => Bool.rec (.ok (.int (fmodI i j)) s) (.bad 7) (Nat.beq n (nat_lit 0))) (fun zz => .bad 7) j) .bad (b ρ s)) .bad (a ρ s) : R V) = _
 rw [ha]
 show (R.rec (fun y s => onI (.int i) (.bad 7) fun i => onI y (.bad 7) fun j => Int.rec (fun n => Bool.rec (.ok (.int (fmodI i j)) s) (.bad 7) (Nat.beq n (nat_lit 0))) (fun zz => .bad 7) j) .bad (b ρ s1) : R V) = _
 rw [hb]
 show (Bool.rec (.ok (.int (fmodI i (.ofNat k))) s2) (.bad 7) (Nat.beq k 0) : R V) = _
 have : Nat.beq k 0 = false := by cases k with
  | zero => exact absurd rfl hk
  | succ k => rfl
 rw [this, fmodI_eq]; rfl
theorem f_fdiv {a b : DE} {i : Int} {k : Nat} (hk : k ≠ 0) (hk2 : k ≤ 1000000000) (ha : a ρ s = .ok (.int i) s1) (hb : b ρ s1 = .ok (.int (.ofNat k)) s2) : fdiv a b ρ s = .ok (.int (Int.fdiv i k)) s2 := by
 show (R.rec (fun x s => R.rec (fun y s => fdivV x y s) .bad (b ρ s)) .bad (a ρ s) : R V) = _
 rw [ha]
 show (R.rec (fun y s => fdivV (.int i) y s) .bad (b ρ s1) : R V) = _
 rw [hb]
 show (Bool.rec (.bad 7) (Bool.rec (.ok (.int (fdivI i (.ofNat k))) s2) (.bad 7) (Nat.beq k 0)) (Nat.ble k 1000000000) : R V) = _
 have : Nat.beq k 0 = false := by cases k with
  | zero => exact absurd rfl hk
  | succ k => rfl
 rw [this, Nat.ble_eq_true_of_le hk2, fdivI_eq]; rfl
theorem f_mul {a b : DE} {i j : Int} (hj : small j = true) (ha : a ρ s = .ok (.int i) s1) (hb : b ρ s1 = .ok (.int j) s2) : mul a b ρ s = .ok (.int (mulI i j)) s2 := by
 show (R.rec (fun x s => R.rec (fun y s => mulV x y s) .bad (b ρ s)) .bad (a ρ s) : R V) = _
 rw [ha]
 show (R.rec (fun y s => mulV (.int i) y s) .bad (b ρ s1) : R V) = _
 rw [hb]
 show (Bool.rec (.bad 7) (.ok (.int (mulI i j)) s2) (small j) : R V) = _
 rw [hj]
theorem f_add {a b : DE} {i j : Int} (ha : a ρ s = .ok (.int i) s1) (hb : b ρ s1 = .ok (.int j) s2) : add a b ρ s = .ok (.int (addI i j)) s2 := by
 show (R.rec (fun x s => R.rec (fun y s => addV x y s) .bad (b ρ s)) .bad (a ρ s) : R V) = _
 rw [ha]
 show (R.rec (fun y s => addV (.int i) y s) .bad (b ρ s1) : R V) = _
 rw [hb]; rfl
theorem f_idx {a : DE} {i : Nat} {l : List V} {j : Nat} {v : V} (ha : a ρ s = .ok (.ref i) s) (h : atT s.t i = some (.list l)) (hj : j ≤ 4096) (hv : l[j]? = some v) : idx a (cst (.int (.ofNat j))) ρ s = .ok v s := by
 show (R.rec (fun x s => R.rec (fun y s => idxV x y s) .bad (cst (.int (.ofNat j)) ρ s)) .bad (a ρ s) : R V) = _
 rw [ha]
 show (onO (.ref i) s (.bad 1) (fun zz zz => .bad 1) (fun l => onI (.int (.ofNat j)) (.bad 1) fun i => rO (nthp l i) s) (fun l => OL.rec (.bad 1) (fun o => rO o s) (dfind (.int (.ofNat j)) l)) : R V) = _
 rw [onO_ref, h]
 show rO (nthp l (.ofNat j)) s = _
 have : nthp l (.ofNat j) = .at v := by
  show (Bool.rec .no (nth j l) (Nat.ble j cap) : OL V) = _
  rw [show Nat.ble j cap = true from Nat.ble_eq_true_of_le hj, nth_eq, hv]
 rw [this]; rfl
theorem f_sets {a e : DE} {i : Nat} {l : List V} {j : Nat} (he : e ρ s = .ok x s1) (ha : a ρ s1 = .ok (.ref i) s1) (h : atT s1.t i = some (.list l)) (hl : l.length ≤ 4096) (hj : j < l.length) :
 sets a (cst (.int (.ofNat j))) e ρ s = .next ρ ⟨setT s1.t i (.list (l.set j x)), s1.n⟩ := by
 show (R.rec (fun x s => R.rec (fun v s => R.rec (fun k s => setI v k x s fun s => .next ρ s) .bad (cst (.int (.ofNat j)) ρ s)) .bad (a ρ s)) .bad (e ρ s) : RS) = _
 rw [he]
 show (R.rec (fun v s => R.rec (fun k s => setI v k x s fun s => .next ρ s) .bad (cst (.int (.ofNat j)) ρ s)) .bad (a ρ s1) : RS) = _
 rw [ha]
 show setI (.ref i) (.int (.ofNat j)) x s1 (fun s => .next ρ s) = _
 have e : setI (.ref i) (.int (.ofNat j)) x s1 (fun s => .next ρ s) = onO (.ref i) s1 (.bad 41) (fun zz zz => .bad 41) (fun l => Bool.rec (.bad 41) (OL.rec (.bad 41) (fun r => .next ρ (put (.ref i) (.list r) s1)) (setL j x l)) (Nat.ble (len l) cap)) (fun l => OL.rec (.bad 41) (fun r => .next ρ (put (.ref i) (.dict r) s1)) (dputC (.int (.ofNat j)) x l)) := rfl
 rw [e, onO_ref, h]
 show (Bool.rec (.bad 41) (OL.rec (.bad 41) (fun r => .next ρ (put (.ref i) (.list r) s1)) (setL j x l)) (Nat.ble (len l) cap) : RS) = _
 have h1 : ∀ (j : Nat) (l : List V), j < l.length → setL j x l = .at (l.set j x) := by
  intro j
  induction j with
  | zero => intro l hl; cases l with
   | nil => simp at hl
   | cons a l => rfl
  | succ j ih => intro l hl; cases l with
   | nil => simp at hl
   | cons a l =>
    show (OL.rec .no (fun r => .at (a :: r)) (setL j x l) : OL (List V)) = _
    rw [ih l (by simpa using hl)]; rfl
 rw [h1 j l hj, len_eq, show Nat.ble l.length cap = true from Nat.ble_eq_true_of_le hl]
 show RS.next ρ (put (.ref i) (.list (l.set j x)) s1) = _
 rw [put_ref]
end
theorem getT_set {t : T} {i : Nat} {o o₀ : O} (h : atT t i = some o₀) : atT (setT t i o) i = some o := by
 have h1 := atT_set o t i (atT_self o o₀ t i h) i
 rw [if_pos rfl] at h1; exact h1
def src (a b : Int) : O := .list [.int a, .int b, .lst []]
theorem fmod_nat (a : Int) {k : Nat} (hk : k ≠ 0) : ∃ d : Nat, Int.fmod a k = (d : Int) ∧ d < k := by
 have h1 : 0 ≤ Int.fmod a k := Int.fmod_nonneg_of_pos a (by omega)
 have h2 : Int.fmod a k < k := Int.fmod_lt_of_pos a (by omega)
 exact ⟨(Int.fmod a k).toNat, by omega, by omega⟩
theorem take_spec {i k m : Nat} {t : T} {a b : Int} (h : atT t i = some (src a b)) (hk : k ≠ 0) (hk2 : k ≤ 1000000000) :
 ∃ (a' b' : Int) (d : Nat), d < k ∧ F__law_take [.ref i, .int (.ofNat k)] ⟨t, m⟩ = .ok (.int (.ofNat d)) ⟨setT t i (src a' b'), m⟩ := by
 have hF : ∀ {v : V} {s' : St}, D__law_take (Mine.env [.ref i, .int (.ofNat k)] 1) ⟨t, m⟩ = .ret v s' → F__law_take [.ref i, .int (.ofNat k)] ⟨t, m⟩ = .ok v s' := by
  intro v s' e
  show (RS.rec (fun zz s => .ok .none s) (fun v s => .ok v s) (fun zz zz => .bad 45) .bad (D__law_take (Mine.env [.ref i, .int (.ofNat k)] 1) ⟨t, m⟩) : R V) = _
  rw [e]
 have e1 : idx (loc 0) (cst (.int (.ofNat 2))) (Mine.env [.ref i, .int (.ofNat k)] 1) ⟨t, m⟩ = .ok (.lst []) ⟨t, m⟩ := f_idx rfl h (by decide) rfl
 have t1 : tcmp .ne (idx (loc 0) (cst (.int (.ofNat 2)))) (lstV []) (Mine.env [.ref i, .int (.ofNat k)] 1) ⟨t, m⟩ = .ok false ⟨t, m⟩ := by rw [f_tcmp e1 (y := .lst []) (s2 := ⟨t, m⟩) rfl]; rfl
 have e2 : idx (loc 0) (cst (.int (.ofNat 0))) (Mine.env [.ref i, .int (.ofNat k)] 1) ⟨t, m⟩ = .ok (.int a) ⟨t, m⟩ := f_idx rfl h (by decide) rfl
 have t2 : tcmp .gt (idx (loc 0) (cst (.int (.ofNat 0)))) (cst (.int (.ofNat 0))) (Mine.env [.ref i, .int (.ofNat k)] 1) ⟨t, m⟩ = .ok (decide (0 < a)) ⟨t, m⟩ := by
  rw [f_tcmp e2 (y := .int (.ofNat 0)) (s2 := ⟨t, m⟩) rfl]
  show rC false false true (cmpI a 0) ⟨t, m⟩ = _
  rcases cmpI_cases a 0 with ⟨h1, h2⟩ | ⟨h1, h2⟩ | ⟨h1, h2⟩
  · rw [h1, decide_eq_false (by omega)]; rfl
  · rw [h1, decide_eq_false (by omega)]; rfl
  · rw [h1, decide_eq_true (by omega)]; rfl
 by_cases ha : 0 < a
 · obtain ⟨d, hd, hd2⟩ := fmod_nat a hk
   rw [decide_eq_true ha] at t2
   refine ⟨Int.fdiv a k, b, d, hd2, hF ?_⟩
   unfold D__law_take
   rw [f_sq (ρ' := Mine.env [.ref i, .int (.ofNat k)] 1) (s1 := ⟨t, m⟩) (by rw [f_iff t1]; rfl)]
   refine f_sqr ?_
   rw [f_iff t2]
   show sq _ _ _ _ = _
   rw [f_sq (f_asg (f_mod hk e2 rfl))]
   have e3 : idx (loc 0) (cst (.int (.ofNat 0))) (setE 2 (.int (Int.fmod a k)) (Mine.env [.ref i, .int (.ofNat k)] 1)) ⟨t, m⟩ = .ok (.int a) ⟨t, m⟩ := f_idx rfl h (by decide) rfl
   rw [f_sq (f_sets (f_fdiv hk hk2 e3 rfl) rfl h (by simp) (by simp))]
   rw [hd]
   exact f_ret rfl
 · rw [decide_eq_false ha] at t2
   have e4 : idx (loc 0) (cst (.int (.ofNat 1))) (Mine.env [.ref i, .int (.ofNat k)] 1) ⟨t, m⟩ = .ok (.int b) ⟨t, m⟩ := f_idx rfl h (by decide) rfl
   obtain ⟨c, hc, hc2⟩ := fmod_nat (addI (mulI b 39373) 7) (k := 2147483647) (by decide)
   have hg := getT_set (o := src a (c : Int)) h
   have e5 : ∀ ρ, idx (loc 0) (cst (.int (.ofNat 1))) (.cons (.ref i) ρ) ⟨setT t i (src a (c : Int)), m⟩ = .ok (.int (c : Int)) ⟨setT t i (src a (c : Int)), m⟩ := fun ρ => f_idx rfl hg (by decide) rfl
   obtain ⟨d, hd, hd2⟩ := fmod_nat (Int.fdiv (Int.fmod (mulI c c) 2147483629) 32) hk
   refine ⟨a, c, d, hd2, hF ?_⟩
   unfold D__law_take
   rw [f_sq (ρ' := Mine.env [.ref i, .int (.ofNat k)] 1) (s1 := ⟨t, m⟩) (by rw [f_iff t1]; rfl)]
   rw [f_sq (ρ' := Mine.env [.ref i, .int (.ofNat k)] 1) (s1 := ⟨t, m⟩) (by rw [f_iff t2]; rfl)]
   rw [f_sq (f_sets (f_mod (k := 2147483647) (by decide) (f_add (f_mul (j := .ofNat 39373) (by decide) e4 rfl) rfl) rfl) rfl h (by simp) (by simp))]
   have hc' : Int.fmod (addI (mulI b (.ofNat 39373)) (.ofNat 7)) ((2147483647 : Nat) : Int) = (c : Int) := hc
   rw [hc']
   have hsm : small ((c : Nat) : Int) = true := by
    show Nat.ble c 1000000000000000000 = true
    exact Nat.ble_eq_true_of_le (by omega)
   let I1 := idx (loc 0) (cst (.int (.ofNat 1)))
   have m1 : mul I1 I1 (Mine.env [.ref i, .int (.ofNat k)] 1) ⟨setT t i (src a (c : Int)), m⟩ = .ok (.int (mulI c c)) ⟨setT t i (src a (c : Int)), m⟩ := f_mul hsm (e5 _) (e5 _)
   have m2 : mod (mul I1 I1) (cst (.int (.ofNat 2147483629))) (Mine.env [.ref i, .int (.ofNat k)] 1) ⟨setT t i (src a (c : Int)), m⟩ = .ok (.int (Int.fmod (mulI c c) (2147483629 : Nat))) ⟨setT t i (src a (c : Int)), m⟩ := f_mod (by decide) m1 rfl
   have m3 : fdiv (mod (mul I1 I1) (cst (.int (.ofNat 2147483629)))) (cst (.int (.ofNat 32))) (Mine.env [.ref i, .int (.ofNat k)] 1) ⟨setT t i (src a (c : Int)), m⟩ = .ok (.int (Int.fdiv (Int.fmod (mulI c c) (2147483629 : Nat)) (32 : Nat))) ⟨setT t i (src a (c : Int)), m⟩ := f_fdiv (by decide) (by decide) m2 rfl
   have hres : mod (fdiv (mod (mul I1 I1) (cst (.int (.ofNat 2147483629)))) (cst (.int (.ofNat 32)))) (loc 1) (Mine.env [.ref i, .int (.ofNat k)] 1) ⟨setT t i (src a (c : Int)), m⟩ = .ok (.int (Int.fmod (Int.fdiv (Int.fmod (mulI c c) (2147483629 : Nat)) (32 : Nat)) k)) ⟨setT t i (src a (c : Int)), m⟩ := f_mod hk m3 rfl
   have hd' : Int.fmod (Int.fdiv (Int.fmod (mulI c c) (2147483629 : Nat)) (32 : Nat)) k = (d : Int) := hd
   rw [hd'] at hres
   exact f_ret hres
theorem one_spec {i m : Nat} {t : T} {a b : Int} {x y : V} (h : atT t i = some (src a b)) : ∃ (a' b' : Int) (d : Nat), d < 2 ∧ F__law_one [.ref i, .lst [x, y]] ⟨t, m⟩ = .ok (Bool.rec x y (Nat.beq d 1)) ⟨setT t i (src a' b'), m⟩ := by
 obtain ⟨a', b', d, hd, e⟩ := take_spec (m := m) h (k := 2) (by decide) (by decide)
 refine ⟨a', b', d, hd, ?_⟩
 have hF : ∀ {v : V} {s' : St}, D__law_one (Mine.env [.ref i, .lst [x, y]] 0) ⟨t, m⟩ = .ret v s' → F__law_one [.ref i, .lst [x, y]] ⟨t, m⟩ = .ok v s' := by
  intro v s' e
  show (RS.rec (fun zz s => .ok .none s) (fun v s => .ok v s) (fun zz zz => .bad 45) .bad (D__law_one (Mine.env [.ref i, .lst [x, y]] 0) ⟨t, m⟩) : R V) = _
  rw [e]
 refine hF (f_ret ?_)
 have ec : cal F__law_take [loc 0, bLen strLen (loc 1)] (Mine.env [.ref i, .lst [x, y]] 0) ⟨t, m⟩ = .ok (.int (.ofNat d)) ⟨setT t i (src a' b'), m⟩ := (f_cal (vs := [.ref i, .int (.ofNat 2)]) rfl).trans e
 show (R.rec (fun x s => R.rec (fun y s => idxV x y s) .bad (cal F__law_take [loc 0, bLen strLen (loc 1)] (Mine.env [.ref i, .lst [x, y]] 0) s)) .bad (loc 1 (Mine.env [.ref i, .lst [x, y]] 0) ⟨t, m⟩) : R V) = _
 show (R.rec (fun z s => idxV (.lst [x, y]) z s) .bad (cal F__law_take [loc 0, bLen strLen (loc 1)] (Mine.env [.ref i, .lst [x, y]] 0) ⟨t, m⟩) : R V) = _
 rw [ec]
 match d, hd with
 | 0, _ => rfl
 | 1, _ => rfl
end
end Mine
end
section
namespace Mine
noncomputable section
section
variable {ρ : Env} {s s1 s2 s3 : St} {x y z v : V}
theorem f_tup {es : List DE} {vs : List V} (h : evs es ρ s = .ok vs s1) : tupE es ρ s = .ok (.tup vs) s1 := by
 show (R.rec (fun v s => .ok (.tup v) s) .bad (evs es ρ s) : R V) = _
 rw [h]
theorem f_lst {es : List DE} {vs : List V} (h : evs es ρ s = .ok vs s1) : lstV es ρ s = .ok (.lst vs) s1 := by
 show (R.rec (fun v s => .ok (.lst v) s) .bad (evs es ρ s) : R V) = _
 rw [h]
theorem f_asgT {as : List DA} {e : DE} {l : List V} (h : e ρ s = .ok (.tup l) s1) : asgT as e ρ s = aAll as l ρ s1 := by
 show (R.rec (fun v s => onL (itemsOf v s) (.bad 43) fun l => aAll as l ρ s) .bad (e ρ s) : RS) = _
 rw [h]; rfl
theorem f_vT {a : DT} {b : Bool} (h : a ρ s = .ok b s1) : vT a ρ s = .ok (.bool b) s1 := by
 show (R.rec (fun v s => .ok (.bool v) s) .bad (a ρ s) : R V) = _
 rw [h]
theorem f_vor {a b : DE} {t : Bool} (h : a ρ s = .ok (.bool t) s1) : vor a b ρ s = (Bool.rec (b ρ s1) (.ok (.bool t) s1) t : R V) := by
 show (R.rec (fun v s => R.rec (fun t s => Bool.rec (b ρ s) (.ok v s) t) .bad (truthy v s)) .bad (a ρ s) : R V) = _
 rw [h]; rfl
theorem f_vand {a b : DE} {t : Bool} (h : a ρ s = .ok (.bool t) s1) : vand a b ρ s = (Bool.rec (.ok (.bool t) s1) (b ρ s1) t : R V) := by
 show (R.rec (fun v s => R.rec (fun t s => Bool.rec (.ok v s) (b ρ s) t) .bad (truthy v s)) .bad (a ρ s) : R V) = _
 rw [h]; rfl
theorem f_addL {a b : DE} {l m : List V} (hc : l.length + m.length ≤ 4096) (ha : a ρ s = .ok (.lst l) s1) (hb : b ρ s1 = .ok (.lst m) s2) : add a b ρ s = .ok (.lst (l ++ m)) s2 := by
 show (R.rec (fun x s => R.rec (fun y s => addV x y s) .bad (b ρ s)) .bad (a ρ s) : R V) = _
 rw [ha]
 show (R.rec (fun y s => addV (.lst l) y s) .bad (b ρ s1) : R V) = _
 rw [hb]
 show (Bool.rec (.bad 7) (.ok (.lst (app l m)) s2) (Nat.ble (Nat.add (len l) (len m)) cap) : R V) = _
 rw [len_eq, len_eq, app_eq, show Nat.ble (Nat.add l.length m.length) cap = true from Nat.ble_eq_true_of_le hc]
end
def plain : Nat → V → Bool
 | 0, _ => false
 | _ + 1, .int _ => true
 | n + 1, .tup l => l.all (plain n)
 | _ + 1, _ => false
theorem eqI_self (i : Int) : eqI i i = true := by rw [eqI_eq]; simp
theorem cmpI_self (i : Int) : cmpI i i = .eq := by
 show (Bool.rec (Bool.rec .gt .lt (ltI i i)) .eq (eqI i i) : C4) = _
 rw [eqI_self]
theorem eqL_self {f : V → V → B3} : ∀ {l : List V}, (∀ x ∈ l, f x x = .yes) → eqL f l l = .yes
 | [], _ => rfl
 | x :: l, h => by
  show (B3.rec .no (eqL f l l) .er (f x x) : B3) = _
  rw [h x (.head _)]
  exact eqL_self fun y hy => h y (.tail _ hy)
theorem cmpL_self {f : V → V → C4} : ∀ {l : List V}, (∀ x ∈ l, f x x = .eq) → cmpL f l l = .eq
 | [], _ => rfl
 | x :: l, h => by
  show (C4.rec .lt (cmpL f l l) .gt .er (f x x) : C4) = _
  rw [h x (.head _)]
  exact cmpL_self fun y hy => h y (.tail _ hy)
theorem same : ∀ {n : Nat} {v : V}, plain n v = true → eqV n v v = .yes ∧ cmpV n v v = .eq
 | 0, v, h => by cases v <;> cases h
 | n + 1, .int i, _ => by
  refine ⟨?_, cmpI_self i⟩
  show b3 (eqI i i) = _
  rw [eqI_self]; rfl
 | n + 1, .tup l, h => by
  have h1 : ∀ x ∈ l, plain n x = true := List.all_eq_true.mp h
  exact ⟨eqL_self fun x hx => (same (h1 x hx)).1, cmpL_self fun x hx => (same (h1 x hx)).2⟩
 | _ + 1, .none, h | _ + 1, .bool _, h | _ + 1, .str _, h | _ + 1, .bytes _, h | _ + 1, .lst _, h | _ + 1, .dct _, h | _ + 1, .ref _, h => by cases h
theorem f_neS {ρ : Env} {s s1 s2 : St} {X Y : DE} {l : List V} (hX : X ρ s = .ok (.tup l) s1) (hY : Y ρ s1 = .ok (.tup l) s2) (hp : plain 6 (.tup l) = true) : tcmp .ne X Y ρ s = .ok false s2 := by
 rw [f_tcmp hX hY]
 show rN (eqV 6 (.tup l) (.tup l)) s2 = _
 rw [(same hp).1]; rfl
theorem f_chk {ρ : Env} {s s1 s2 : St} {X Y : DE} {b c : DS} {l : List V} (hX : X ρ s = .ok (.tup l) s1) (hY : Y ρ s1 = .ok (.tup l) s2) (hp : plain 6 (.tup l) = true) : sq (iff (tcmp .ne X Y) b skip) c ρ s = c ρ s2 := by
 refine f_sq ?_
 rw [f_iff (f_neS hX hY hp)]; rfl
def isLt : C4 → Bool | .lt => true | _ => false
theorem over_of {a b : List V} {s : St} {c : C4} {e : Bool} {p : Bool} (hc : cmpV 6 (.tup a) (.tup b) = c) (hcr : c ≠ .er) (he : eqV 6 (.tup a) (.tup b) = b3 e) (hp : e = false → c ≠ .lt → F_is_from_same_port [.tup a, .tup b] s = .ok (.bool p) s) :
 F_takes_over [.tup a, .tup b] s = .ok (.bool (isLt c || (!e && p))) s := by
 have hF : ∀ {v : V} {s' : St}, D_takes_over (Mine.env [.tup a, .tup b] 0) s = .ret v s' → F_takes_over [.tup a, .tup b] s = .ok v s' := by
  intro v s' e
  show (RS.rec (fun zz s => .ok .none s) (fun v s => .ok v s) (fun zz zz => .bad 45) .bad (D_takes_over (Mine.env [.tup a, .tup b] 0) s) : R V) = _
  rw [e]
 have t1 : vT (tcmp .lt (loc 0) (loc 1)) (Mine.env [.tup a, .tup b] 0) s = .ok (.bool (isLt c)) s := by
  refine f_vT ?_
  rw [f_tcmp (x := .tup a) (s1 := s) rfl (y := .tup b) (s2 := s) rfl]
  show rC true false false (cmpV 6 (.tup a) (.tup b)) s = _
  rw [hc]
  cases c with
  | er => exact absurd rfl hcr
  | _ => rfl
 have t2 : vT (tcmp .ne (loc 0) (loc 1)) (Mine.env [.tup a, .tup b] 0) s = .ok (.bool (!e)) s := by
  refine f_vT ?_
  rw [f_tcmp (x := .tup a) (s1 := s) rfl (y := .tup b) (s2 := s) rfl]
  show rN (eqV 6 (.tup a) (.tup b)) s = _
  rw [he]
  cases e <;> rfl
 refine hF (f_ret ?_)
 rw [f_vor t1]
 by_cases hlt : c = .lt
 · subst hlt; rfl
 · have e1 : isLt c = false := by cases c <;> first | rfl | exact absurd rfl hlt
   rw [e1]
   show vand _ _ _ _ = _
   rw [f_vand t2]
   cases e with
   | true => rfl
   | false =>
    show cal F_is_from_same_port [loc 0, loc 1] _ _ = _
    rw [f_cal (vs := [.tup a, .tup b]) (s1 := s) rfl]
    exact hp rfl hlt
end
end Mine
end
section
namespace Mine
noncomputable section
def L0 : O := .list [.int (.ofNat 1), .int (.ofNat 0), .int (.ofNat 5), .int (.ofNat 6), .int (.ofNat 3), .int (.ofNat 0), .int (.ofNat 0)]
def S0 (a b : Int) : St := ⟨.node L0 (.node (src a b) .nil .nil) .nil, 2⟩
def tlO (n : Int) : O := .inst 9 (.cons (.lst []) (.un (.cons (.int n) (.cons (.tup [.int (.ofNat 4096), .int (.ofNat 12)]) (.cons (.bytes (zeros 51)) (.un (.un (.un (.cons (.int (.ofNat 9)) .nil)))))))))
def S3 (a b n : Int) : St := ⟨.node L0 (.node (src a b) .nil .nil) (.node (tlO n) .nil .nil), 3⟩
theorem take0 (a b : Int) (k : Nat) (hk : k ≠ 0) (hk2 : k ≤ 1000000000) : ∃ (a' b' : Int) (d : Nat), d < k ∧ F__law_take [.ref 1, .int (.ofNat k)] (S0 a b) = .ok (.int (.ofNat d)) (S0 a' b') := take_spec (t := .node L0 (.node (src a b) .nil .nil) .nil) (i := 1) (m := 2) rfl hk hk2
theorem one0 (a b : Int) (x y : V) : ∃ (a' b' : Int) (d : Nat), d < 2 ∧ F__law_one [.ref 1, .lst [x, y]] (S0 a b) = .ok (Bool.rec x y (Nat.beq d 1)) (S0 a' b') := one_spec (t := .node L0 (.node (src a b) .nil .nil) .nil) (i := 1) (m := 2) rfl
theorem f_evs {ρ : Env} {s s1 s2 : St} {e : DE} {es : List DE} {v : V} {vs : List V} (h : e ρ s = .ok v s1) (h2 : evs es ρ s1 = .ok vs s2) : evs (e :: es) ρ s = .ok (v :: vs) s2 := by
 show (R.rec (fun v s => R.rec (fun vs s => .ok (.cons v vs) s) .bad (evs es ρ s)) .bad (e ρ s) : R (List V)) = _
 rw [h]
 show (R.rec (fun vs s => .ok (.cons v vs) s) .bad (evs es ρ s1) : R (List V)) = _
 rw [h2]
abbrev pr (a b : Int) : V := .tup [.int a, .int b]
abbrev wh (r k o n p : Int) : List V := [pr r (.ofNat 7), .int o, pr (.ofNat 8192) k, .int n, pr (.ofNat 4096) p, pr (.ofNat 128) (.ofNat 3)]
theorem eqL_eq {f : V → V → B3} {x y : V} {l m : List V} (h : f x y = .yes) : eqL f (x :: l) (y :: m) = eqL f l m := by
 show (B3.rec .no (eqL f l m) .er (f x y) : B3) = _
 rw [h]
theorem eqL_ne {f : V → V → B3} {x y : V} {l m : List V} (h : f x y = .no) : eqL f (x :: l) (y :: m) = .no := by
 show (B3.rec .no (eqL f l m) .er (f x y) : B3) = _
 rw [h]
theorem cmpL_eq {f : V → V → C4} {x y : V} {l m : List V} (h : f x y = .eq) : cmpL f (x :: l) (y :: m) = cmpL f l m := by
 show (C4.rec .lt (cmpL f l m) .gt .er (f x y) : C4) = _
 rw [h]
theorem cmpL_lt {f : V → V → C4} {x y : V} {l m : List V} (h : f x y = .lt) : cmpL f (x :: l) (y :: m) = .lt := by
 show (C4.rec .lt (cmpL f l m) .gt .er (f x y) : C4) = _
 rw [h]
theorem cmpL_gt {f : V → V → C4} {x y : V} {l m : List V} (h : f x y = .gt) : cmpL f (x :: l) (y :: m) = .gt := by
 show (C4.rec .lt (cmpL f l m) .gt .er (f x y) : C4) = _
 rw [h]
theorem cmpI_gt (n : Int) : cmpI (addI n (.ofNat 1)) n = .gt := by
 have e : addI n (.ofNat 1) = n + 1 := addI_eq n 1
 rw [e]
 rcases cmpI_cases (n + 1) n with ⟨_, h⟩ | ⟨_, h⟩ | ⟨h, _⟩
 · omega
 · omega
 · exact h
theorem cmpI_lt (n : Int) : cmpI n (addI n (.ofNat 1)) = .lt := by
 have e : addI n (.ofNat 1) = n + 1 := addI_eq n 1
 rw [e]
 rcases cmpI_cases n (n + 1) with ⟨_, h⟩ | ⟨h, _⟩ | ⟨_, h⟩
 · omega
 · exact h
 · omega
theorem eqI_no (n : Int) : eqI (addI n (.ofNat 1)) n = false := by
 have e : addI n (.ofNat 1) = n + 1 := addI_eq n 1
 rw [e, eqI_eq]; simp; omega
theorem eqI_no' (n : Int) : eqI n (addI n (.ofNat 1)) = false := by
 have e : addI n (.ofNat 1) = n + 1 := addI_eq n 1
 rw [e, eqI_eq]; simp; omega
section
variable (r k o n p q : Int)
theorem wh_ne1 : eqV 6 (.tup (wh r k o (addI n (.ofNat 1)) p)) (.tup (wh r k o n q)) = .no := by
 show eqL (eqV 5) (wh r k o (addI n (.ofNat 1)) p) (wh r k o n q) = _
 rw [eqL_eq (same (by rfl)).1, eqL_eq (same (by rfl)).1, eqL_eq (same (by rfl)).1, eqL_ne]
 show b3 (eqI (addI n (.ofNat 1)) n) = _
 rw [eqI_no]; rfl
theorem wh_ne2 : eqV 6 (.tup (wh r k o n p)) (.tup (wh r k o (addI n (.ofNat 1)) q)) = .no := by
 show eqL (eqV 5) (wh r k o n p) (wh r k o (addI n (.ofNat 1)) q) = _
 rw [eqL_eq (same (by rfl)).1, eqL_eq (same (by rfl)).1, eqL_eq (same (by rfl)).1, eqL_ne]
 show b3 (eqI n (addI n (.ofNat 1))) = _
 rw [eqI_no']; rfl
theorem wh_gt : cmpV 6 (.tup (wh r k o (addI n (.ofNat 1)) p)) (.tup (wh r k o n q)) = .gt := by
 show cmpL (cmpV 5) (wh r k o (addI n (.ofNat 1)) p) (wh r k o n q) = _
 rw [cmpL_eq (same (by rfl)).2, cmpL_eq (same (by rfl)).2, cmpL_eq (same (by rfl)).2, cmpL_gt]
 exact cmpI_gt n
theorem wh_lt : cmpV 6 (.tup (wh r k o n p)) (.tup (wh r k o (addI n (.ofNat 1)) q)) = .lt := by
 show cmpL (cmpV 5) (wh r k o n p) (wh r k o (addI n (.ofNat 1)) q) = _
 rw [cmpL_eq (same (by rfl)).2, cmpL_eq (same (by rfl)).2, cmpL_eq (same (by rfl)).2, cmpL_lt]
 exact cmpI_lt n
theorem ov_same (s : St) : F_takes_over [.tup (wh r k o n p), .tup (wh r k o n p)] s = .ok (.bool false) s :=
 over_of (c := .eq) (e := true) (p := false) (same (by rfl)).2 nofun (same (by rfl)).1 (fun h => by cases h)
theorem ov_worse (s : St) : F_takes_over [.tup (wh r k o (addI n (.ofNat 1)) (.ofNat 12)), .tup (wh r k o n (.ofNat 12))] s = .ok (.bool true) s :=
 over_of (c := .gt) (e := false) (p := true) (wh_gt ..) nofun (wh_ne1 ..) (fun zz zz => rfl)
theorem ov_far (s : St) : F_takes_over [.tup (wh r k o (addI n (.ofNat 1)) (.ofNat 13)), .tup (wh r k o n (.ofNat 12))] s = .ok (.bool false) s :=
 over_of (c := .gt) (e := false) (p := false) (wh_gt ..) nofun (wh_ne1 ..) (fun zz zz => rfl)
theorem ov_lt (s : St) : F_takes_over [.tup (wh r k o n (.ofNat 12)), .tup (wh r k o (addI n (.ofNat 1)) (.ofNat 13))] s = .ok (.bool true) s :=
 over_of (c := .lt) (e := false) (p := false) (wh_lt ..) nofun (wh_ne2 ..) (fun zz h => absurd rfl h)
theorem f_lcomp3 {K : Nat} {it : DI} {e : DE} {ρ : Env} {s : St} {a b c x y z : V} (hi : it ρ s = .ok (.mk .no [a, b, c]) s) (h1 : e (setE K a ρ) s = .ok x s) (h2 : e (setE K b ρ) s = .ok y s) (h3 : e (setE K c ρ) s = .ok z s) : lcomp K it tT e ρ s = .ok (.lst [x, y, z]) s := by
 show (R.rec (fun x s => onIt x fun h l => Bool.rec (.bad 36) (R.rec (fun v s => .ok (.lst v) s) .bad (lcs h K tT e ρ l 0 s)) (Nat.ble (len l) cap)) .bad (it ρ s) : R V) = _
 rw [hi]
 show (R.rec (fun v s => .ok (.lst v) s) .bad (lcs .no K tT e ρ [a, b, c] 0 s) : R V) = _
 have c1 : ∀ {w v : V} {l vs : List V} {i : Nat}, e (setE K w ρ) s = .ok v s → lcs .no K tT e ρ l (Nat.succ i) s = .ok vs s → lcs .no K tT e ρ (w :: l) i s = .ok (v :: vs) s := by
  intro w v l vs i h1 h2
  show (R.rec (fun w s => R.rec (fun ws s => .ok (.cons w ws) s) .bad (lcs .no K tT e ρ l (Nat.succ i) s)) .bad (e (setE K w ρ) s) : R (List V)) = _
  rw [h1]
  show (R.rec (fun ws s => .ok (.cons v ws) s) .bad (lcs .no K tT e ρ l (Nat.succ i) s) : R (List V)) = _
  rw [h2]
 rw [c1 h1 (c1 h2 (c1 h3 (vs := []) rfl))]
def vE (r k o n c : Int) (tl wh wo fa to ow : Env → Env) : Env := .cons (.ref 1) (tl (wh (wo (fa (to (.cons (pr r (.ofNat 7)) (.cons (pr (.ofNat 8192) k) (.cons (.int o) (.cons (.int n) (.cons (.int c) (ow (.un .nil))))))))))))
theorem vr (a b : Int) : ∃ a' b' n, F__law_vectors_right [.ref 1] (S0 a b) = .ok (.bool true) (S3 a' b' n) := by
 obtain ⟨a1, b1, d1, hd1, e1⟩ := take0 a b 3 (by decide) (by decide)
 obtain ⟨a2, b2, d2, hd2, e2⟩ := one0 a1 b1 (.int (.ofNat 7)) (.int (.ofNat 8))
 obtain ⟨a3, b3, o, _, e3⟩ := take0 a2 b2 50 (by decide) (by decide)
 obtain ⟨a4, b4, n, _, e4⟩ := take0 a3 b3 50 (by decide) (by decide)
 obtain ⟨a5, b5, c', _, e5⟩ := take0 a4 b4 20 (by decide) (by decide)
 refine ⟨a5, b5, .ofNat n, ?_⟩
 have hF : ∀ {v : V} {s' : St}, D__law_vectors_right (Mine.env [.ref 1] 12) (S0 a b) = .ret v s' → F__law_vectors_right [.ref 1] (S0 a b) = .ok v s' := by
  intro v s' e
  show (RS.rec (fun zz s => .ok .none s) (fun v s => .ok v s) (fun zz zz => .bad 45) .bad (D__law_vectors_right (Mine.env [.ref 1] 12) (S0 a b)) : R V) = _
  rw [e]
 refine hF ?_
 have hk : ∃ k : Int, (Bool.rec (.int (.ofNat 7)) (.int (.ofNat 8)) (Nat.beq d2 1) : V) = .int k := by
  cases Nat.beq d2 1 with
  | true => exact ⟨_, rfl⟩
  | false => exact ⟨_, rfl⟩
 obtain ⟨k, hk⟩ := hk
 rw [hk] at e2
 have hs : small (.ofNat d1) = true := by
  show Nat.ble d1 1000000000000000000 = true
  exact Nat.ble_eq_true_of_le (by omega)
 unfold D__law_vectors_right
 generalize hr : mulI (.ofNat 4096) (.ofNat d1) = r
 generalize hc : addI (.ofNat 1) (.ofNat c') = c
 refine (f_sq (s1 := S0 a2 b2) (ρ' := setE 7 (pr (.ofNat 8192) k) (setE 6 (pr r (.ofNat 7)) (Mine.env [.ref 1] 12))) ?_).trans ?_
 · rw [f_asgT (l := [pr r (.ofNat 7), pr (.ofNat 8192) k]) (s1 := S0 a2 b2)]
   · rfl
   · rw [← hr]
     exact f_tup (f_evs (f_tup (f_evs (f_mul hs rfl ((f_cal (vs := [.ref 1, .int (.ofNat 3)]) rfl).trans e1)) (f_evs rfl f_evs0)))
      (f_evs (f_tup (f_evs rfl (f_evs ((f_cal (vs := [.ref 1, .lst [.int (.ofNat 7), .int (.ofNat 8)]]) rfl).trans e2) f_evs0))) f_evs0))
 refine (f_sq (s1 := S0 a5 b5) (ρ' := vE r k (.ofNat o) (.ofNat n) c .un .un .un .un .un .un) ?_).trans ?_
 · rw [f_asgT (l := [.int (.ofNat o), .int (.ofNat n), .int c]) (s1 := S0 a5 b5)]
   · rfl
   · rw [← hc]
     exact f_tup (f_evs ((f_cal (vs := [.ref 1, .int (.ofNat 50)]) rfl).trans e3) (f_evs ((f_cal (vs := [.ref 1, .int (.ofNat 50)]) rfl).trans e4) (f_evs (f_add rfl ((f_cal (vs := [.ref 1, .int (.ofNat 20)]) rfl).trans e5)) f_evs0)))
 generalize hO : (.ofNat o : Int) = O
 generalize hN : (.ofNat n : Int) = N
 clear e1 e2 e3 e4 e5 hF hs hO hN hr hc hk
 refine (f_sq (s1 := S0 a5 b5) (ρ' := vE r k O N c .un .un .un .un (.cons (.tup [pr r (.ofNat 7), .int O, pr (.ofNat 8192) k, pr (.ofNat 128) (.ofNat 3)])) (.cons (pr (.ofNat 4096) (.ofNat 99)))) rfl).trans ?_
 refine (f_sq (s1 := S3 a5 b5 N) (ρ' := vE r k O N c (.cons (.ref 2)) .un .un .un (.cons (.tup [pr r (.ofNat 7), .int O, pr (.ofNat 8192) k, pr (.ofNat 128) (.ofNat 3)])) (.cons (pr (.ofNat 4096) (.ofNat 99)))) rfl).trans ?_
 refine (f_chk (l := wh r k O N (.ofNat 12)) (s1 := S3 a5 b5 N) (s2 := S3 a5 b5 N) rfl rfl rfl).trans ?_
 refine (f_chk (l := [pr r (.ofNat 7), .int O, pr (.ofNat 8192) k, .int (.ofNat 0), pr (.ofNat 8192) k, pr (.ofNat 128) (.ofNat 3)]) (s1 := S3 a5 b5 N) (s2 := S3 a5 b5 N) rfl rfl rfl).trans ?_
 refine (f_sq (s1 := S3 a5 b5 N) (ρ' := vE r k O N c (.cons (.ref 2)) (.cons (.tup (wh r k O N (.ofNat 12)))) .un .un (.cons (.tup [pr r (.ofNat 7), .int O, pr (.ofNat 8192) k, pr (.ofNat 128) (.ofNat 3)])) (.cons (pr (.ofNat 4096) (.ofNat 99)))) rfl).trans ?_
 refine (f_chk (l := wh r k O (addI N c) (.ofNat 12)) (s1 := S3 a5 b5 N) (s2 := S3 a5 b5 N) rfl rfl rfl).trans ?_
 refine (f_chk (l := [pr r (.ofNat 7), .int (addI O c), pr (.ofNat 4096) (.ofNat 99), .int (.ofNat 0), pr (.ofNat 4096) (.ofNat 12), pr (.ofNat 128) (.ofNat 3)]) (s1 := S3 a5 b5 N) (s2 := S3 a5 b5 N) rfl rfl rfl).trans ?_
 refine (f_chk (l := [pr (.ofNat 8192) k, .int (addI N c), pr (.ofNat 4096) (.ofNat 12), pr (.ofNat 128) (.ofNat 3)]) (s1 := S3 a5 b5 N) (s2 := S3 a5 b5 N) rfl rfl rfl).trans ?_
 refine (f_sq (s1 := S3 a5 b5 N) (ρ' := vE r k O N c (.cons (.ref 2)) (.cons (.tup (wh r k O N (.ofNat 12)))) (.cons (.tup (wh r k O (addI N (.ofNat 1)) (.ofNat 12)))) .un (.cons (.tup [pr r (.ofNat 7), .int O, pr (.ofNat 8192) k, pr (.ofNat 128) (.ofNat 3)])) (.cons (pr (.ofNat 4096) (.ofNat 99)))) rfl).trans ?_
 refine (f_sq (s1 := S3 a5 b5 N) (ρ' := vE r k O N c (.cons (.ref 2)) (.cons (.tup (wh r k O N (.ofNat 12)))) (.cons (.tup (wh r k O (addI N (.ofNat 1)) (.ofNat 12)))) (.cons (.tup (wh r k O (addI N (.ofNat 1)) (.ofNat 13)))) (.cons (.tup [pr r (.ofNat 7), .int O, pr (.ofNat 8192) k, pr (.ofNat 128) (.ofNat 3)])) (.cons (pr (.ofNat 4096) (.ofNat 99)))) rfl).trans ?_
 refine (f_sq (s1 := S3 a5 b5 N) (ρ' := vE r k O N c (.cons (.ref 2)) (.cons (.tup (wh r k O N (.ofNat 12)))) (.cons (.tup (wh r k O (addI N (.ofNat 1)) (.ofNat 12)))) (.cons (.tup (wh r k O (addI N (.ofNat 1)) (.ofNat 13)))) (.cons (.lst [.bool false, .bool true, .bool false, .bool true])) (.cons (pr (.ofNat 4096) (.ofNat 99)))) (f_asg (f_addL (l := [.bool false, .bool true, .bool false]) (m := [.bool true]) (by decide)
  (f_lcomp3 (s := S3 a5 b5 N) (a := .tup (wh r k O N (.ofNat 12))) (b := .tup (wh r k O (addI N (.ofNat 1)) (.ofNat 12))) (c := .tup (wh r k O (addI N (.ofNat 1)) (.ofNat 13))) rfl ((f_cal (s1 := S3 a5 b5 N) rfl).trans (ov_same r k O N (.ofNat 12) _)) ((f_cal (s1 := S3 a5 b5 N) rfl).trans (ov_worse ..)) ((f_cal (s1 := S3 a5 b5 N) rfl).trans (ov_far ..)))
  (f_lst (f_evs ((f_cal (s1 := S3 a5 b5 N) rfl).trans (ov_lt r k O N _)) f_evs0))))).trans ?_
 rfl
end
end
end Mine
end
section
namespace Mine
noncomputable section
def QA (LN : DE) (tk : DF) : DS := asg (nat_lit 2) (ife (tand (tcmp .gt LN (cst (.int (.ofNat (nat_lit 1))))) (tcmp .eq (cal tk [loc (nat_lit 1), cst (.int (.ofNat (nat_lit 2)))]) (cst (.int (.ofNat (nat_lit 0)))))) (lstV [cst (.int (.ofNat (nat_lit 2))), cst (.int (.ofNat (nat_lit 7)))]) (lstV [cst (.int (.ofNat (nat_lit 2)))]))
def QM1 : DS := asg (nat_lit 3) (mk (nat_lit 7) (nat_lit 4) F_Region___init__ [cst (.str (nat_lit 0)), cst (.int (.ofNat (nat_lit 3))), dcomp (nat_lit 9) (itE (loc (nat_lit 2))) (tT) (add (loc (nat_lit 9)) (cst (.int (.ofNat (nat_lit 100))))) (loc (nat_lit 9)), bBytes (rep (lstV [cst (.int (.ofNat (nat_lit 9)))]) (nat_lit 16))])
def QM2 (LN : DE) : DS := asg (nat_lit 4) (lcomp (nat_lit 10) (itR2 (cst (.int (.ofNat (nat_lit 1)))) (ife (tcmp .gt LN (cst (.int (.ofNat (nat_lit 1))))) (cst (.int (.ofNat (nat_lit 3)))) (cst (.int (.ofNat (nat_lit 2)))))) (tT) (mk (nat_lit 15) (nat_lit 5) F_PortRow___init__ (fill cst [none, none, none, some (.bool false), some (.bool true)] ([loc (nat_lit 10), cst (.int (.ofNat (nat_lit 128))), mul (cst (.int (.ofNat (nat_lit 10)))) (loc (nat_lit 10))] ++ []))))
def QM3 : DS := asgT [aN (nat_lit 6), aN (nat_lit 7)] (tupE [mk (nat_lit 14) (nat_lit 9) F_MstBridge___init__ (fill cst [none, none, none, none, some (.int (.ofNat (nat_lit 6))), some .none, some (.int (.ofNat (nat_lit 20)))] ([tupE [cst (.int (.ofNat (nat_lit 8192))), cst (.int (.ofNat (nat_lit 20)))], loc (nat_lit 4), mk (nat_lit 5) (nat_lit 10) F_Times___init__ [cst (.int (.ofNat (nat_lit 0))), cst (.int (.ofNat (nat_lit 20))), cst (.int (.ofNat (nat_lit 2))), cst (.int (.ofNat (nat_lit 15)))], loc (nat_lit 3)] ++ [])), dctE [] []])
def QB1 : DS := exq (mcal [((nat_lit 14), F_MstBridge_link_up)] (loc (nat_lit 6)) [att [nat_lit 12, nat_lit 13, nat_lit 15] (nat_lit 0) (loc (nat_lit 5))])
def QB2 (tk : DF) : DS := sets (loc (nat_lit 7)) (att [nat_lit 12, nat_lit 13, nat_lit 15] (nat_lit 0) (loc (nat_lit 5))) (cal tk [loc (nat_lit 1), cst (.int (.ofNat (nat_lit 4)))])
def QB3 : DT := tcmp .lt (idx (loc (nat_lit 7)) (att [nat_lit 12, nat_lit 13, nat_lit 15] (nat_lit 0) (loc (nat_lit 5)))) (cst (.int (.ofNat (nat_lit 3))))
def QC1 (on : DF) : DS := asg (nat_lit 8) (cal on [loc (nat_lit 1), lstV [cst (.int (.ofNat (nat_lit 4096))), cst (.int (.ofNat (nat_lit 12288)))]])
def QC2 : DS := exq (mcal [((nat_lit 14), F_MstBridge_receive)] (loc (nat_lit 6)) [att [nat_lit 12, nat_lit 13, nat_lit 15] (nat_lit 0) (loc (nat_lit 5)), cal F__law_heard [idx (loc (nat_lit 7)) (att [nat_lit 12, nat_lit 13, nat_lit 15] (nat_lit 0) (loc (nat_lit 5))), loc (nat_lit 3), loc (nat_lit 2), loc (nat_lit 8)]])
def QIt : DI := itE (loc (nat_lit 4))
def QT : DS := sq (forS (aN (nat_lit 5)) (itE (loc (nat_lit 4))) (iff (tnot (tE (cal F__law_told_right [loc (nat_lit 6), loc (nat_lit 3), loc (nat_lit 2), att [nat_lit 12, nat_lit 13, nat_lit 15] (nat_lit 0) (loc (nat_lit 5)), vT (tcmp .eq (idx (loc (nat_lit 7)) (att [nat_lit 12, nat_lit 13, nat_lit 15] (nat_lit 0) (loc (nat_lit 5)))) (cst (.int (.ofNat (nat_lit 2)))))]))) (badS (nat_lit 103)) (skip))) (retS (cst (.bool true)))
def QZ0 : DS := asg (nat_lit 1) (cal F__law_pool [loc (nat_lit 0), lstE [cst (.int (.ofNat (nat_lit 1))), cst (.int (.ofNat (nat_lit 0))), cst (.int (.ofNat (nat_lit 5))), cst (.int (.ofNat (nat_lit 6))), cst (.int (.ofNat (nat_lit 3))), cst (.int (.ofNat (nat_lit 0))), cst (.int (.ofNat (nat_lit 0)))]])
def QZ1 : DS := iff (tnot (tE (cal F__law_vectors_right [loc (nat_lit 1)]))) (badS (nat_lit 103)) (skip)
def body (tk on : DF) : DS := sq QB1 (sq (QB2 tk) (iff QB3 (sq (QC1 on) QC2) skip))
theorem D_law_eq : D_law = sq QZ0 (sq QZ1 (sq (QA (bLen strLen (loc 0)) F__law_take) (sq QM1 (sq (QM2 (bLen strLen (loc 0))) (sq QM3 (sq (forS (aN 5) QIt (body F__law_take F__law_one)) QT)))))) := rfl
def isT (v : V) : Bool := @V.rec (fun zz => Bool) (fun zz => Unit) (fun zz => Unit) (fun zz => Unit) false (fun b => b) (fun zz => false) (fun zz => false) (fun zz => false) (fun zz zz => false) (fun zz zz => false) (fun zz zz => false) (fun zz => false) () (fun zz zz zz zz => ()) () (fun zz zz zz zz => ()) (fun zz zz zz zz => ()) v
def okS (r : RS) : Bool := RS.rec (fun zz zz => false) (fun v zz => isT v) (fun zz zz => false) (fun zz => false) r
def isSrc (s : St) : Bool := onO (.ref 1) s false (fun zz zz => false) (fun l => match l with | [.int _, .int _, .lst []] => true | _ => false) (fun zz => false)
def orc (K d : Nat) (a b : Int) : DF := fun vs s => match vs with
 | [.ref i, .int (.ofNat k)] => Bool.rec (.bad 300) (.ok (.int (.ofNat d)) ⟨setT s.t 1 (src a b), s.n⟩) (and (and (Nat.beq i 1) (Nat.beq k K)) (isSrc s))
 | _ => .bad 301
def orc1 (d : Nat) (a b : Int) : DF := fun vs s => match vs with
 | [.ref i, .lst [x, y]] => Bool.rec (.bad 300) (.ok (Bool.rec x y (Nat.beq d 1)) ⟨setT s.t 1 (src a b), s.n⟩) (and (Nat.beq i 1) (isSrc s))
 | _ => .bad 301
def bodyC (tk on : DF) (C : DS) : DS := sq QB1 (sq (QB2 tk) (iff QB3 (sq (QC1 on) (sq QC2 C)) C))
def turn (b : DS → DS) (v : V) (c : DS) : DS := sq (fun ρ s => aN 5 v ρ s) (b c)
def lp1 (it : DI) (b : DS → DS) (c : DS) : DS := fun ρ s => R.rec (fun x s => onIt x fun h l => OL.rec (match l with | [v] => turn b v c ρ s | _ => .bad 302) (fun zz => .bad 302) h) .bad (it ρ s)
def lp2 (it : DI) (b b' : DS → DS) (c : DS) : DS := fun ρ s => R.rec (fun x s => onIt x fun h l => OL.rec (match l with | [v, v'] => turn b v (turn b' v' c) ρ s | _ => .bad 302) (fun zz => .bad 302) h) .bad (it ρ s)
def W1 (LN : DE) (tA : DF) (b : DS → DS) : DS := sq (QA LN tA) (sq QM1 (sq (QM2 LN) (sq QM3 (lp1 QIt b QT))))
def W2 (LN : DE) (tA : DF) (b b' : DS → DS) : DS := sq (QA LN tA) (sq QM1 (sq (QM2 LN) (sq QM3 (lp2 QIt b b' QT))))
def ρ0 (sc : V) : Env := .cons sc (.cons (.ref 1) (uns 9))
end
end Mine
end
section
namespace Mine
structure Pm where
 sc : V
 a : Int
 b : Int
 n : Int
 a0 : Int
 b0 : Int
 a1 : Int
 b1 : Int
 a2 : Int
 b2 : Int
 a3 : Int
 b3 : Int
 a4 : Int
 b4 : Int
noncomputable def r2 (p : Pm) (x d e d' e' : Nat) : Bool := okS (W2 (cst (.int (.ofNat 2))) (orc 2 x p.a0 p.b0) (bodyC (orc 4 d p.a1 p.b1) (orc1 e p.a2 p.b2)) (bodyC (orc 4 d' p.a3 p.b3) (orc1 e' p.a4 p.b4)) (ρ0 p.sc) (S3 p.a p.b p.n))
noncomputable def r1 (p : Pm) (d e : Nat) : Bool := okS (W1 (cst (.int (.ofNat 1))) F__law_take (bodyC (orc 4 d p.a1 p.b1) (orc1 e p.a2 p.b2)) (ρ0 p.sc) (S3 p.a p.b p.n))
theorem pick {Q : Nat → Nat → Prop} (h0 : Q 0 0) (h1 : Q 0 1) (h2 : Q 1 0) (h3 : Q 1 1) (h4 : Q 2 0) (h5 : Q 2 1) (h6 : ∀ e, Q 3 e) : ∀ d e, d < 4 → e < 2 → Q d e
 | 0, 0, _, _ => h0 | 0, 1, _, _ => h1 | 1, 0, _, _ => h2 | 1, 1, _, _ => h3 | 2, 0, _, _ => h4 | 2, 1, _, _ => h5 | 3, e, _, _ => h6 e
theorem g000 (p : Pm) (e e' : Nat) : r2 p (nat_lit 0) (nat_lit 0) (nat_lit 0) (nat_lit 0) (nat_lit 0) = true := by kernel_rfl
theorem g001 (p : Pm) (e e' : Nat) : r2 p (nat_lit 0) (nat_lit 0) (nat_lit 0) (nat_lit 0) (nat_lit 1) = true := by kernel_rfl
theorem g002 (p : Pm) (e e' : Nat) : r2 p (nat_lit 0) (nat_lit 0) (nat_lit 0) (nat_lit 1) (nat_lit 0) = true := by kernel_rfl
theorem g003 (p : Pm) (e e' : Nat) : r2 p (nat_lit 0) (nat_lit 0) (nat_lit 0) (nat_lit 1) (nat_lit 1) = true := by kernel_rfl
theorem g004 (p : Pm) (e e' : Nat) : r2 p (nat_lit 0) (nat_lit 0) (nat_lit 0) (nat_lit 2) (nat_lit 0) = true := by kernel_rfl
theorem g005 (p : Pm) (e e' : Nat) : r2 p (nat_lit 0) (nat_lit 0) (nat_lit 0) (nat_lit 2) (nat_lit 1) = true := by kernel_rfl
theorem g006 (p : Pm) (e e' : Nat) : r2 p (nat_lit 0) (nat_lit 0) (nat_lit 0) (nat_lit 3) e' = true := by kernel_rfl
theorem g010 (p : Pm) (e e' : Nat) : r2 p (nat_lit 0) (nat_lit 0) (nat_lit 1) (nat_lit 0) (nat_lit 0) = true := by kernel_rfl
theorem g011 (p : Pm) (e e' : Nat) : r2 p (nat_lit 0) (nat_lit 0) (nat_lit 1) (nat_lit 0) (nat_lit 1) = true := by kernel_rfl
theorem g012 (p : Pm) (e e' : Nat) : r2 p (nat_lit 0) (nat_lit 0) (nat_lit 1) (nat_lit 1) (nat_lit 0) = true := by kernel_rfl
theorem g013 (p : Pm) (e e' : Nat) : r2 p (nat_lit 0) (nat_lit 0) (nat_lit 1) (nat_lit 1) (nat_lit 1) = true := by kernel_rfl
theorem g014 (p : Pm) (e e' : Nat) : r2 p (nat_lit 0) (nat_lit 0) (nat_lit 1) (nat_lit 2) (nat_lit 0) = true := by kernel_rfl
theorem g015 (p : Pm) (e e' : Nat) : r2 p (nat_lit 0) (nat_lit 0) (nat_lit 1) (nat_lit 2) (nat_lit 1) = true := by kernel_rfl
theorem g016 (p : Pm) (e e' : Nat) : r2 p (nat_lit 0) (nat_lit 0) (nat_lit 1) (nat_lit 3) e' = true := by kernel_rfl
theorem g020 (p : Pm) (e e' : Nat) : r2 p (nat_lit 0) (nat_lit 1) (nat_lit 0) (nat_lit 0) (nat_lit 0) = true := by kernel_rfl
theorem g021 (p : Pm) (e e' : Nat) : r2 p (nat_lit 0) (nat_lit 1) (nat_lit 0) (nat_lit 0) (nat_lit 1) = true := by kernel_rfl
theorem g022 (p : Pm) (e e' : Nat) : r2 p (nat_lit 0) (nat_lit 1) (nat_lit 0) (nat_lit 1) (nat_lit 0) = true := by kernel_rfl
theorem g023 (p : Pm) (e e' : Nat) : r2 p (nat_lit 0) (nat_lit 1) (nat_lit 0) (nat_lit 1) (nat_lit 1) = true := by kernel_rfl
theorem g024 (p : Pm) (e e' : Nat) : r2 p (nat_lit 0) (nat_lit 1) (nat_lit 0) (nat_lit 2) (nat_lit 0) = true := by kernel_rfl
theorem g025 (p : Pm) (e e' : Nat) : r2 p (nat_lit 0) (nat_lit 1) (nat_lit 0) (nat_lit 2) (nat_lit 1) = true := by kernel_rfl
theorem g026 (p : Pm) (e e' : Nat) : r2 p (nat_lit 0) (nat_lit 1) (nat_lit 0) (nat_lit 3) e' = true := by kernel_rfl
theorem g030 (p : Pm) (e e' : Nat) : r2 p (nat_lit 0) (nat_lit 1) (nat_lit 1) (nat_lit 0) (nat_lit 0) = true := by kernel_rfl
theorem g031 (p : Pm) (e e' : Nat) : r2 p (nat_lit 0) (nat_lit 1) (nat_lit 1) (nat_lit 0) (nat_lit 1) = true := by kernel_rfl
theorem g032 (p : Pm) (e e' : Nat) : r2 p (nat_lit 0) (nat_lit 1) (nat_lit 1) (nat_lit 1) (nat_lit 0) = true := by kernel_rfl
theorem g033 (p : Pm) (e e' : Nat) : r2 p (nat_lit 0) (nat_lit 1) (nat_lit 1) (nat_lit 1) (nat_lit 1) = true := by kernel_rfl
theorem g034 (p : Pm) (e e' : Nat) : r2 p (nat_lit 0) (nat_lit 1) (nat_lit 1) (nat_lit 2) (nat_lit 0) = true := by kernel_rfl
theorem g035 (p : Pm) (e e' : Nat) : r2 p (nat_lit 0) (nat_lit 1) (nat_lit 1) (nat_lit 2) (nat_lit 1) = true := by kernel_rfl
theorem g036 (p : Pm) (e e' : Nat) : r2 p (nat_lit 0) (nat_lit 1) (nat_lit 1) (nat_lit 3) e' = true := by kernel_rfl
theorem g040 (p : Pm) (e e' : Nat) : r2 p (nat_lit 0) (nat_lit 2) (nat_lit 0) (nat_lit 0) (nat_lit 0) = true := by kernel_rfl
theorem g041 (p : Pm) (e e' : Nat) : r2 p (nat_lit 0) (nat_lit 2) (nat_lit 0) (nat_lit 0) (nat_lit 1) = true := by kernel_rfl
theorem g042 (p : Pm) (e e' : Nat) : r2 p (nat_lit 0) (nat_lit 2) (nat_lit 0) (nat_lit 1) (nat_lit 0) = true := by kernel_rfl
theorem g043 (p : Pm) (e e' : Nat) : r2 p (nat_lit 0) (nat_lit 2) (nat_lit 0) (nat_lit 1) (nat_lit 1) = true := by kernel_rfl
theorem g044 (p : Pm) (e e' : Nat) : r2 p (nat_lit 0) (nat_lit 2) (nat_lit 0) (nat_lit 2) (nat_lit 0) = true := by kernel_rfl
theorem g045 (p : Pm) (e e' : Nat) : r2 p (nat_lit 0) (nat_lit 2) (nat_lit 0) (nat_lit 2) (nat_lit 1) = true := by kernel_rfl
theorem g046 (p : Pm) (e e' : Nat) : r2 p (nat_lit 0) (nat_lit 2) (nat_lit 0) (nat_lit 3) e' = true := by kernel_rfl
theorem g050 (p : Pm) (e e' : Nat) : r2 p (nat_lit 0) (nat_lit 2) (nat_lit 1) (nat_lit 0) (nat_lit 0) = true := by kernel_rfl
theorem g051 (p : Pm) (e e' : Nat) : r2 p (nat_lit 0) (nat_lit 2) (nat_lit 1) (nat_lit 0) (nat_lit 1) = true := by kernel_rfl
theorem g052 (p : Pm) (e e' : Nat) : r2 p (nat_lit 0) (nat_lit 2) (nat_lit 1) (nat_lit 1) (nat_lit 0) = true := by kernel_rfl
theorem g053 (p : Pm) (e e' : Nat) : r2 p (nat_lit 0) (nat_lit 2) (nat_lit 1) (nat_lit 1) (nat_lit 1) = true := by kernel_rfl
theorem g054 (p : Pm) (e e' : Nat) : r2 p (nat_lit 0) (nat_lit 2) (nat_lit 1) (nat_lit 2) (nat_lit 0) = true := by kernel_rfl
theorem g055 (p : Pm) (e e' : Nat) : r2 p (nat_lit 0) (nat_lit 2) (nat_lit 1) (nat_lit 2) (nat_lit 1) = true := by kernel_rfl
theorem g056 (p : Pm) (e e' : Nat) : r2 p (nat_lit 0) (nat_lit 2) (nat_lit 1) (nat_lit 3) e' = true := by kernel_rfl
theorem g060 (p : Pm) (e e' : Nat) : r2 p (nat_lit 0) (nat_lit 3) e (nat_lit 0) (nat_lit 0) = true := by kernel_rfl
theorem g061 (p : Pm) (e e' : Nat) : r2 p (nat_lit 0) (nat_lit 3) e (nat_lit 0) (nat_lit 1) = true := by kernel_rfl
theorem g062 (p : Pm) (e e' : Nat) : r2 p (nat_lit 0) (nat_lit 3) e (nat_lit 1) (nat_lit 0) = true := by kernel_rfl
theorem g063 (p : Pm) (e e' : Nat) : r2 p (nat_lit 0) (nat_lit 3) e (nat_lit 1) (nat_lit 1) = true := by kernel_rfl
theorem g064 (p : Pm) (e e' : Nat) : r2 p (nat_lit 0) (nat_lit 3) e (nat_lit 2) (nat_lit 0) = true := by kernel_rfl
theorem g065 (p : Pm) (e e' : Nat) : r2 p (nat_lit 0) (nat_lit 3) e (nat_lit 2) (nat_lit 1) = true := by kernel_rfl
theorem g066 (p : Pm) (e e' : Nat) : r2 p (nat_lit 0) (nat_lit 3) e (nat_lit 3) e' = true := by kernel_rfl
theorem g100 (p : Pm) (e e' : Nat) : r2 p (nat_lit 1) (nat_lit 0) (nat_lit 0) (nat_lit 0) (nat_lit 0) = true := by kernel_rfl
theorem g101 (p : Pm) (e e' : Nat) : r2 p (nat_lit 1) (nat_lit 0) (nat_lit 0) (nat_lit 0) (nat_lit 1) = true := by kernel_rfl
theorem g102 (p : Pm) (e e' : Nat) : r2 p (nat_lit 1) (nat_lit 0) (nat_lit 0) (nat_lit 1) (nat_lit 0) = true := by kernel_rfl
theorem g103 (p : Pm) (e e' : Nat) : r2 p (nat_lit 1) (nat_lit 0) (nat_lit 0) (nat_lit 1) (nat_lit 1) = true := by kernel_rfl
theorem g104 (p : Pm) (e e' : Nat) : r2 p (nat_lit 1) (nat_lit 0) (nat_lit 0) (nat_lit 2) (nat_lit 0) = true := by kernel_rfl
theorem g105 (p : Pm) (e e' : Nat) : r2 p (nat_lit 1) (nat_lit 0) (nat_lit 0) (nat_lit 2) (nat_lit 1) = true := by kernel_rfl
theorem g106 (p : Pm) (e e' : Nat) : r2 p (nat_lit 1) (nat_lit 0) (nat_lit 0) (nat_lit 3) e' = true := by kernel_rfl
theorem g110 (p : Pm) (e e' : Nat) : r2 p (nat_lit 1) (nat_lit 0) (nat_lit 1) (nat_lit 0) (nat_lit 0) = true := by kernel_rfl
theorem g111 (p : Pm) (e e' : Nat) : r2 p (nat_lit 1) (nat_lit 0) (nat_lit 1) (nat_lit 0) (nat_lit 1) = true := by kernel_rfl
theorem g112 (p : Pm) (e e' : Nat) : r2 p (nat_lit 1) (nat_lit 0) (nat_lit 1) (nat_lit 1) (nat_lit 0) = true := by kernel_rfl
theorem g113 (p : Pm) (e e' : Nat) : r2 p (nat_lit 1) (nat_lit 0) (nat_lit 1) (nat_lit 1) (nat_lit 1) = true := by kernel_rfl
theorem g114 (p : Pm) (e e' : Nat) : r2 p (nat_lit 1) (nat_lit 0) (nat_lit 1) (nat_lit 2) (nat_lit 0) = true := by kernel_rfl
theorem g115 (p : Pm) (e e' : Nat) : r2 p (nat_lit 1) (nat_lit 0) (nat_lit 1) (nat_lit 2) (nat_lit 1) = true := by kernel_rfl
theorem g116 (p : Pm) (e e' : Nat) : r2 p (nat_lit 1) (nat_lit 0) (nat_lit 1) (nat_lit 3) e' = true := by kernel_rfl
theorem g120 (p : Pm) (e e' : Nat) : r2 p (nat_lit 1) (nat_lit 1) (nat_lit 0) (nat_lit 0) (nat_lit 0) = true := by kernel_rfl
theorem g121 (p : Pm) (e e' : Nat) : r2 p (nat_lit 1) (nat_lit 1) (nat_lit 0) (nat_lit 0) (nat_lit 1) = true := by kernel_rfl
theorem g122 (p : Pm) (e e' : Nat) : r2 p (nat_lit 1) (nat_lit 1) (nat_lit 0) (nat_lit 1) (nat_lit 0) = true := by kernel_rfl
theorem g123 (p : Pm) (e e' : Nat) : r2 p (nat_lit 1) (nat_lit 1) (nat_lit 0) (nat_lit 1) (nat_lit 1) = true := by kernel_rfl
theorem g124 (p : Pm) (e e' : Nat) : r2 p (nat_lit 1) (nat_lit 1) (nat_lit 0) (nat_lit 2) (nat_lit 0) = true := by kernel_rfl
theorem g125 (p : Pm) (e e' : Nat) : r2 p (nat_lit 1) (nat_lit 1) (nat_lit 0) (nat_lit 2) (nat_lit 1) = true := by kernel_rfl
theorem g126 (p : Pm) (e e' : Nat) : r2 p (nat_lit 1) (nat_lit 1) (nat_lit 0) (nat_lit 3) e' = true := by kernel_rfl
theorem g130 (p : Pm) (e e' : Nat) : r2 p (nat_lit 1) (nat_lit 1) (nat_lit 1) (nat_lit 0) (nat_lit 0) = true := by kernel_rfl
theorem g131 (p : Pm) (e e' : Nat) : r2 p (nat_lit 1) (nat_lit 1) (nat_lit 1) (nat_lit 0) (nat_lit 1) = true := by kernel_rfl
theorem g132 (p : Pm) (e e' : Nat) : r2 p (nat_lit 1) (nat_lit 1) (nat_lit 1) (nat_lit 1) (nat_lit 0) = true := by kernel_rfl
theorem g133 (p : Pm) (e e' : Nat) : r2 p (nat_lit 1) (nat_lit 1) (nat_lit 1) (nat_lit 1) (nat_lit 1) = true := by kernel_rfl
theorem g134 (p : Pm) (e e' : Nat) : r2 p (nat_lit 1) (nat_lit 1) (nat_lit 1) (nat_lit 2) (nat_lit 0) = true := by kernel_rfl
theorem g135 (p : Pm) (e e' : Nat) : r2 p (nat_lit 1) (nat_lit 1) (nat_lit 1) (nat_lit 2) (nat_lit 1) = true := by kernel_rfl
theorem g136 (p : Pm) (e e' : Nat) : r2 p (nat_lit 1) (nat_lit 1) (nat_lit 1) (nat_lit 3) e' = true := by kernel_rfl
theorem g140 (p : Pm) (e e' : Nat) : r2 p (nat_lit 1) (nat_lit 2) (nat_lit 0) (nat_lit 0) (nat_lit 0) = true := by kernel_rfl
theorem g141 (p : Pm) (e e' : Nat) : r2 p (nat_lit 1) (nat_lit 2) (nat_lit 0) (nat_lit 0) (nat_lit 1) = true := by kernel_rfl
theorem g142 (p : Pm) (e e' : Nat) : r2 p (nat_lit 1) (nat_lit 2) (nat_lit 0) (nat_lit 1) (nat_lit 0) = true := by kernel_rfl
theorem g143 (p : Pm) (e e' : Nat) : r2 p (nat_lit 1) (nat_lit 2) (nat_lit 0) (nat_lit 1) (nat_lit 1) = true := by kernel_rfl
theorem g144 (p : Pm) (e e' : Nat) : r2 p (nat_lit 1) (nat_lit 2) (nat_lit 0) (nat_lit 2) (nat_lit 0) = true := by kernel_rfl
theorem g145 (p : Pm) (e e' : Nat) : r2 p (nat_lit 1) (nat_lit 2) (nat_lit 0) (nat_lit 2) (nat_lit 1) = true := by kernel_rfl
theorem g146 (p : Pm) (e e' : Nat) : r2 p (nat_lit 1) (nat_lit 2) (nat_lit 0) (nat_lit 3) e' = true := by kernel_rfl
theorem g150 (p : Pm) (e e' : Nat) : r2 p (nat_lit 1) (nat_lit 2) (nat_lit 1) (nat_lit 0) (nat_lit 0) = true := by kernel_rfl
theorem g151 (p : Pm) (e e' : Nat) : r2 p (nat_lit 1) (nat_lit 2) (nat_lit 1) (nat_lit 0) (nat_lit 1) = true := by kernel_rfl
theorem g152 (p : Pm) (e e' : Nat) : r2 p (nat_lit 1) (nat_lit 2) (nat_lit 1) (nat_lit 1) (nat_lit 0) = true := by kernel_rfl
theorem g153 (p : Pm) (e e' : Nat) : r2 p (nat_lit 1) (nat_lit 2) (nat_lit 1) (nat_lit 1) (nat_lit 1) = true := by kernel_rfl
theorem g154 (p : Pm) (e e' : Nat) : r2 p (nat_lit 1) (nat_lit 2) (nat_lit 1) (nat_lit 2) (nat_lit 0) = true := by kernel_rfl
theorem g155 (p : Pm) (e e' : Nat) : r2 p (nat_lit 1) (nat_lit 2) (nat_lit 1) (nat_lit 2) (nat_lit 1) = true := by kernel_rfl
theorem g156 (p : Pm) (e e' : Nat) : r2 p (nat_lit 1) (nat_lit 2) (nat_lit 1) (nat_lit 3) e' = true := by kernel_rfl
theorem g160 (p : Pm) (e e' : Nat) : r2 p (nat_lit 1) (nat_lit 3) e (nat_lit 0) (nat_lit 0) = true := by kernel_rfl
theorem g161 (p : Pm) (e e' : Nat) : r2 p (nat_lit 1) (nat_lit 3) e (nat_lit 0) (nat_lit 1) = true := by kernel_rfl
theorem g162 (p : Pm) (e e' : Nat) : r2 p (nat_lit 1) (nat_lit 3) e (nat_lit 1) (nat_lit 0) = true := by kernel_rfl
theorem g163 (p : Pm) (e e' : Nat) : r2 p (nat_lit 1) (nat_lit 3) e (nat_lit 1) (nat_lit 1) = true := by kernel_rfl
theorem g164 (p : Pm) (e e' : Nat) : r2 p (nat_lit 1) (nat_lit 3) e (nat_lit 2) (nat_lit 0) = true := by kernel_rfl
theorem g165 (p : Pm) (e e' : Nat) : r2 p (nat_lit 1) (nat_lit 3) e (nat_lit 2) (nat_lit 1) = true := by kernel_rfl
theorem g166 (p : Pm) (e e' : Nat) : r2 p (nat_lit 1) (nat_lit 3) e (nat_lit 3) e' = true := by kernel_rfl
theorem k0 (p : Pm) (e : Nat) : r1 p (nat_lit 0) (nat_lit 0) = true := by kernel_rfl
theorem k1 (p : Pm) (e : Nat) : r1 p (nat_lit 0) (nat_lit 1) = true := by kernel_rfl
theorem k2 (p : Pm) (e : Nat) : r1 p (nat_lit 1) (nat_lit 0) = true := by kernel_rfl
theorem k3 (p : Pm) (e : Nat) : r1 p (nat_lit 1) (nat_lit 1) = true := by kernel_rfl
theorem k4 (p : Pm) (e : Nat) : r1 p (nat_lit 2) (nat_lit 0) = true := by kernel_rfl
theorem k5 (p : Pm) (e : Nat) : r1 p (nat_lit 2) (nat_lit 1) = true := by kernel_rfl
theorem k6 (p : Pm) (e : Nat) : r1 p (nat_lit 3) e = true := by kernel_rfl
theorem allV2 (p : Pm) : ∀ x d e d' e', x < 2 → d < 4 → e < 2 → d' < 4 → e' < 2 → r2 p x d e d' e' = true
 | 0, d, e, d', e', _, h1, h2, h3, h4 => pick (Q := fun d e => ∀ d' e', d' < 4 → e' < 2 → r2 p 0 d e d' e' = true) (pick (Q := fun d' e' => r2 p 0 0 0 d' e' = true) (g000 p 0 0) (g001 p 0 0) (g002 p 0 0) (g003 p 0 0) (g004 p 0 0) (g005 p 0 0) (fun e' => g006 p 0 e')) (pick (Q := fun d' e' => r2 p 0 0 1 d' e' = true) (g010 p 0 0) (g011 p 0 0) (g012 p 0 0) (g013 p 0 0) (g014 p 0 0) (g015 p 0 0) (fun e' => g016 p 0 e')) (pick (Q := fun d' e' => r2 p 0 1 0 d' e' = true) (g020 p 0 0) (g021 p 0 0) (g022 p 0 0) (g023 p 0 0) (g024 p 0 0) (g025 p 0 0) (fun e' => g026 p 0 e')) (pick (Q := fun d' e' => r2 p 0 1 1 d' e' = true) (g030 p 0 0) (g031 p 0 0) (g032 p 0 0) (g033 p 0 0) (g034 p 0 0) (g035 p 0 0) (fun e' => g036 p 0 e')) (pick (Q := fun d' e' => r2 p 0 2 0 d' e' = true) (g040 p 0 0) (g041 p 0 0) (g042 p 0 0) (g043 p 0 0) (g044 p 0 0) (g045 p 0 0) (fun e' => g046 p 0 e')) (pick (Q := fun d' e' => r2 p 0 2 1 d' e' = true) (g050 p 0 0) (g051 p 0 0) (g052 p 0 0) (g053 p 0 0) (g054 p 0 0) (g055 p 0 0) (fun e' => g056 p 0 e')) (fun e => pick (Q := fun d' e' => r2 p 0 3 e d' e' = true) (g060 p e 0) (g061 p e 0) (g062 p e 0) (g063 p e 0) (g064 p e 0) (g065 p e 0) (fun e' => g066 p e e')) d e h1 h2 d' e' h3 h4
 | 1, d, e, d', e', _, h1, h2, h3, h4 => pick (Q := fun d e => ∀ d' e', d' < 4 → e' < 2 → r2 p 1 d e d' e' = true) (pick (Q := fun d' e' => r2 p 1 0 0 d' e' = true) (g100 p 0 0) (g101 p 0 0) (g102 p 0 0) (g103 p 0 0) (g104 p 0 0) (g105 p 0 0) (fun e' => g106 p 0 e')) (pick (Q := fun d' e' => r2 p 1 0 1 d' e' = true) (g110 p 0 0) (g111 p 0 0) (g112 p 0 0) (g113 p 0 0) (g114 p 0 0) (g115 p 0 0) (fun e' => g116 p 0 e')) (pick (Q := fun d' e' => r2 p 1 1 0 d' e' = true) (g120 p 0 0) (g121 p 0 0) (g122 p 0 0) (g123 p 0 0) (g124 p 0 0) (g125 p 0 0) (fun e' => g126 p 0 e')) (pick (Q := fun d' e' => r2 p 1 1 1 d' e' = true) (g130 p 0 0) (g131 p 0 0) (g132 p 0 0) (g133 p 0 0) (g134 p 0 0) (g135 p 0 0) (fun e' => g136 p 0 e')) (pick (Q := fun d' e' => r2 p 1 2 0 d' e' = true) (g140 p 0 0) (g141 p 0 0) (g142 p 0 0) (g143 p 0 0) (g144 p 0 0) (g145 p 0 0) (fun e' => g146 p 0 e')) (pick (Q := fun d' e' => r2 p 1 2 1 d' e' = true) (g150 p 0 0) (g151 p 0 0) (g152 p 0 0) (g153 p 0 0) (g154 p 0 0) (g155 p 0 0) (fun e' => g156 p 0 e')) (fun e => pick (Q := fun d' e' => r2 p 1 3 e d' e' = true) (g160 p e 0) (g161 p e 0) (g162 p e 0) (g163 p e 0) (g164 p e 0) (g165 p e 0) (fun e' => g166 p e e')) d e h1 h2 d' e' h3 h4
theorem allV1 (p : Pm) : ∀ d e, d < 4 → e < 2 → r1 p d e = true := pick (Q := fun d e => r1 p d e = true) (k0 p 0) (k1 p 0) (k2 p 0) (k3 p 0) (k4 p 0) (k5 p 0) (k6 p)
end Mine
end
section
namespace Mine
noncomputable section
theorem isT_inv {v : V} (h : isT v = true) : v = .bool true := by
 cases v with
 | bool b => exact congrArg V.bool h
 | _ => cases h
theorem okS_inv {r : RS} (h : okS r = true) : ∃ s, r = .ret (.bool true) s := by
 cases r with
 | ret v s => exact ⟨s, by rw [isT_inv h]⟩
 | _ => cases h
def Gd {ι : Type} (real : DF) (fam : ι → DF) (X : DF → DS) : Prop := ∀ ρ s, (∀ i, okS (X (fam i) ρ s) = true) → okS (X real ρ s) = true
section
variable {ι : Type} {real : DF} {fam : ι → DF} {X : DF → DS}
theorem Gd.sq [Inhabited ι] {A : DS} (g : Gd real fam X) : Gd real fam fun tk => sq A (X tk) := fun ρ s h => by
 replace h : ∀ i, okS (Mine.sq A (X (fam i)) ρ s) = true := h
 show okS (Mine.sq A (X real) ρ s) = true
 have e : ∀ tk, Mine.sq A (X tk) ρ s = RS.rec (fun ρ s => X tk ρ s) (fun v s => .ret v s) (fun ρ s => .cont ρ s) .bad (A ρ s) := fun zz => rfl
 cases hA : A ρ s with
 | next ρ' s' =>
  have e' : ∀ tk, Mine.sq A (X tk) ρ s = X tk ρ' s' := fun tk => by rw [e, hA]
  rw [e']; exact g _ _ fun i => e' _ ▸ h i
 | ret v s' => have := h default; rw [e, hA] at this; rw [e, hA]; exact this
 | cont ρ' s' => have := h default; rw [e, hA] at this; cases this
 | bad k => have := h default; rw [e, hA] at this; cases this
theorem Gd.iff [Inhabited ι] {t : DT} {C : DS} (g : Gd real fam X) : Gd real fam fun tk => iff t (X tk) C := fun ρ s h => by
 replace h : ∀ i, okS (Mine.iff t (X (fam i)) C ρ s) = true := h
 show okS (Mine.iff t (X real) C ρ s) = true
 have e : ∀ tk, Mine.iff t (X tk) C ρ s = R.rec (fun v s => Bool.rec (C ρ s) (X tk ρ s) v) .bad (t ρ s) := fun zz => rfl
 cases hA : t ρ s with
 | ok v s' =>
  cases v with
  | true =>
   have e' : ∀ tk, Mine.iff t (X tk) C ρ s = X tk ρ s' := fun tk => by rw [e, hA]
   rw [e']; exact g _ _ fun i => e' _ ▸ h i
  | false =>
   have e' : ∀ tk, Mine.iff t (X tk) C ρ s = C ρ s' := fun tk => by rw [e, hA]
   have := h default; rw [e'] at this; rw [e']; exact this
 | bad k => have := h default; rw [e, hA] at this; cases this
theorem Gd.base [Inhabited ι] {A : DF → DS} {C : DS} {es : List DE} (Φ : Env → St → R V → RS) (hA : ∀ tk ρ s, A tk ρ s = Φ ρ s (cal tk es ρ s)) (hb : ∀ ρ s k, ∃ j, Φ ρ s (.bad k) = .bad j)
 (ang : ∀ ρ s, (∀ i, ∃ v s', cal (fam i) es ρ s = .ok v s') → ∃ i, cal real es ρ s = cal (fam i) es ρ s) : Gd real fam fun tk => Mine.sq (A tk) C := fun ρ s h => by
 replace h : ∀ i, okS (Mine.sq (A (fam i)) C ρ s) = true := h
 show okS (Mine.sq (A real) C ρ s) = true
 have e : ∀ tk, Mine.sq (A tk) C ρ s = RS.rec (fun ρ s => C ρ s) (fun v s => .ret v s) (fun ρ s => .cont ρ s) .bad (Φ ρ s (cal tk es ρ s)) := fun tk => by rw [← hA]; rfl
 obtain ⟨i, hi⟩ := ang ρ s fun i => by
  cases hc : cal (fam i) es ρ s with
  | ok v s' => exact ⟨_, _, rfl⟩
  | bad k =>
   exfalso
   have := h i
   rw [e, hc] at this
   obtain ⟨j, hj⟩ := hb ρ s k
   rw [hj] at this; cases this
 rw [e, hi, ← e]; exact h i
theorem Gd.gen {Y : DF → Env → DS} (g : ∀ ρ', Gd real fam fun tk => Y tk ρ') : Gd real fam fun tk ρ s => Y tk ρ ρ s := fun ρ s h => g ρ ρ s h
end
theorem isSrc_inv {s : St} (h : isSrc s = true) : ∃ a b, atT s.t 1 = some (src a b) := by
 unfold isSrc at h
 rw [onO_ref] at h
 cases hq : atT s.t 1 with
 | none => rw [hq] at h; cases h
 | some o =>
  rw [hq] at h
  cases o with
  | inst c f => cases h
  | dict l => cases h
  | list l =>
   have h : (match (generalizing := false) l with | [.int _, .int _, .lst []] => true | _ => false) = true := h
   cases l with
   | nil => cases h
   | cons x l => cases x with
    | int a => cases l with
     | nil => cases h
     | cons y l => cases y with
      | int b => cases l with
       | nil => cases h
       | cons z l => cases z with
        | lst q => cases q with
         | nil => cases l with
          | nil => exact ⟨_, _, rfl⟩
          | cons _ _ => cases h
         | cons _ _ => cases h
        | _ => cases h
      | _ => cases h
    | _ => cases h
theorem evs2 {e : DE} {v : V} {ρ : Env} {s s' : St} {vs : List V} (h : evs [loc 1, e] ρ s = .ok vs s') (he : ∀ ρ s, e ρ s = .ok v s) : ∃ w, vs = [w, v] ∧ s' = s ∧ loc 1 ρ s = .ok w s := by
 cases hn : nthE 1 ρ s with
 | bad k =>
  have e1 : evs [loc 1, e] ρ s = (R.rec (fun w s => R.rec (fun vs s => .ok (w :: vs) s) .bad (evs [e] ρ s)) .bad (nthE 1 ρ s) : R (List V)) := rfl
  rw [e1, hn] at h; cases h
 | ok w s1 =>
  obtain ⟨_, rfl⟩ := nthE_ok hn
  have : evs [loc 1, e] ρ s1 = .ok [w, v] s1 := f_evs hn (f_evs (he ρ s1) f_evs0)
  rw [this] at h; cases h
  exact ⟨w, rfl, rfl, hn⟩
abbrev Fam (K : Nat) := Fin K × Int × Int
def famT (K : Nat) (i : Fam K) : DF := orc K i.1.1 i.2.1 i.2.2
def fam1 (i : Fam 2) : DF := orc1 i.1.1 i.2.1 i.2.2
theorem cal_ok {F : DF} {es : List DE} {ρ : Env} {s s' : St} {v : V} (h : cal F es ρ s = .ok v s') : ∃ vs s1, evs es ρ s = .ok vs s1 ∧ F vs s1 = .ok v s' := by
 have e : cal F es ρ s = (R.rec (fun v s => F v s) .bad (evs es ρ s) : R V) := rfl
 cases hn : evs es ρ s with
 | bad k => rw [e, hn] at h; cases h
 | ok vs s1 => rw [e, hn] at h; exact ⟨_, _, rfl, h⟩
theorem angT {K : Nat} (hK : K ≠ 0) (hK2 : K ≤ 1000000000) (ρ : Env) (s : St) (h : ∀ i, ∃ v s', cal (famT K i) [loc 1, cst (.int (.ofNat K))] ρ s = .ok v s') : ∃ i, cal F__law_take [loc 1, cst (.int (.ofNat K))] ρ s = cal (famT K i) [loc 1, cst (.int (.ofNat K))] ρ s := by
 obtain ⟨v, s', e⟩ := h ⟨⟨0, by omega⟩, 0, 0⟩
 obtain ⟨vs, s1, e1, e2⟩ := cal_ok e
 obtain ⟨w, rfl, rfl, _⟩ := evs2 (v := .int (.ofNat K)) e1 (fun zz zz => rfl)
 cases w with
 | ref i =>
  have e2 : (Bool.rec (.bad 300) (.ok (.int (.ofNat 0)) ⟨setT s1.t 1 (src 0 0), s1.n⟩) (and (and (Nat.beq i 1) (Nat.beq K K)) (isSrc s1)) : R V) = .ok v s' := e2
  cases h1 : Nat.beq i 1 with
  | false => rw [h1] at e2; cases e2
  | true =>
   have : i = 1 := Nat.eq_of_beq_eq_true h1
   subst this
   have hKK : Nat.beq K K = true := Nat.beq_refl K
   cases h2 : isSrc s1 with
   | false => rw [hKK, h2] at e2; cases e2
   | true =>
    obtain ⟨a, b, ha⟩ := isSrc_inv h2
    obtain ⟨a', b', d, hd, et⟩ := take_spec (m := s1.n) ha hK hK2
    refine ⟨⟨⟨d, hd⟩, a', b'⟩, ?_⟩
    rw [f_cal e1, f_cal e1]
    refine et.trans ?_
    show _ = (Bool.rec (.bad 300) (.ok (.int (.ofNat d)) ⟨setT s1.t 1 (src a' b'), s1.n⟩) (and (and (Nat.beq 1 1) (Nat.beq K K)) (isSrc s1)) : R V)
    rw [hKK, h2]; rfl
 | _ => cases e2
theorem ang1 (x y : V) (ρ : Env) (s : St) (h : ∀ i, ∃ v s', cal (fam1 i) [loc 1, lstV [cst x, cst y]] ρ s = .ok v s') : ∃ i, cal F__law_one [loc 1, lstV [cst x, cst y]] ρ s = cal (fam1 i) [loc 1, lstV [cst x, cst y]] ρ s := by
 obtain ⟨v, s', e⟩ := h ⟨⟨0, by omega⟩, 0, 0⟩
 obtain ⟨vs, s1, e1, e2⟩ := cal_ok e
 obtain ⟨w, rfl, rfl, _⟩ := evs2 (v := .lst [x, y]) e1 (fun zz zz => rfl)
 cases w with
 | ref i =>
  have e2 : (Bool.rec (.bad 300) (.ok (Bool.rec x y (Nat.beq 0 1)) ⟨setT s1.t 1 (src 0 0), s1.n⟩) (and (Nat.beq i 1) (isSrc s1)) : R V) = .ok v s' := e2
  cases h1 : Nat.beq i 1 with
  | false => rw [h1] at e2; cases e2
  | true =>
   have : i = 1 := Nat.eq_of_beq_eq_true h1
   subst this
   cases h2 : isSrc s1 with
   | false => rw [h2] at e2; cases e2
   | true =>
    obtain ⟨a, b, ha⟩ := isSrc_inv h2
    obtain ⟨a', b', d, hd, et⟩ := one_spec (m := s1.n) (x := x) (y := y) ha
    refine ⟨⟨⟨d, hd⟩, a', b'⟩, ?_⟩
    rw [f_cal e1, f_cal e1]
    refine et.trans ?_
    show _ = (Bool.rec (.bad 300) (.ok (Bool.rec x y (Nat.beq d 1)) ⟨setT s1.t 1 (src a' b'), s1.n⟩) (and (Nat.beq 1 1) (isSrc s1)) : R V)
    rw [h2]; rfl
 | _ => cases e2
theorem gB2 {C : DS} : Gd F__law_take (famT 4) fun tk => sq (QB2 tk) C :=
 Gd.base (es := [loc 1, cst (.int (.ofNat 4))]) (fun ρ s r => R.rec (fun x s => R.rec (fun v s => R.rec (fun k s => setI v k x s fun s => .next ρ s) .bad (att [12, 13, 15] 0 (loc 5) ρ s)) .bad (loc 7 ρ s)) .bad r) (fun zz zz zz => rfl) (fun zz zz k => ⟨k, rfl⟩) (angT (by decide) (by decide))
theorem gC1 {C : DS} : Gd F__law_one fam1 fun on => sq (QC1 on) C :=
 Gd.base (es := [loc 1, lstV [cst (.int (.ofNat 4096)), cst (.int (.ofNat 12288))]]) (fun ρ s r => R.rec (fun v s => .next (setE 8 v ρ) s) .bad r) (fun zz zz zz => rfl) (fun zz zz k => ⟨k, rfl⟩) (ang1 _ _)
theorem gA {C : DS} : Gd F__law_take (famT 2) fun tk => sq (QA (cst (.int (.ofNat 2))) tk) C :=
 Gd.base (es := [loc 1, cst (.int (.ofNat 2))]) (fun ρ s r => R.rec (fun v s => .next (setE 2 v ρ) s) .bad
  (R.rec (fun v s => Bool.rec (lstV [cst (.int (.ofNat 2))] ρ s) (lstV [cst (.int (.ofNat 2)), cst (.int (.ofNat 7))] ρ s) v) .bad
   (R.rec (fun x s => R.rec (fun y s => cmpS .eq x y s) .bad (cst (.int (.ofNat 0)) ρ s)) .bad r : R Bool) : R V)) (fun zz zz zz => rfl) (fun zz zz k => ⟨k, rfl⟩) (angT (by decide) (by decide))
theorem gT1 {on : DF} {C : DS} : Gd F__law_take (famT 4) fun tk => bodyC tk on C := gB2.sq
theorem gT2 {tk : DF} {C : DS} : Gd F__law_one fam1 fun on => bodyC tk on C := gC1.iff.sq.sq
end
end Mine
end
section
namespace Mine
noncomputable section
theorem sq_next {A C : DS} {ρ : Env} {s : St} (h : okS (sq A C ρ s) = true) : (∃ ρ' s', A ρ s = .next ρ' s' ∧ okS (C ρ' s') = true) ∨ (∃ v s', A ρ s = .ret v s' ∧ okS (.ret v s') = true) := by
 have e : sq A C ρ s = RS.rec (fun ρ s => C ρ s) (fun v s => .ret v s) (fun ρ s => .cont ρ s) .bad (A ρ s) := rfl
 cases hA : A ρ s with
 | next ρ' s' => rw [e, hA] at h; exact .inl ⟨_, _, rfl, h⟩
 | ret v s' => rw [e, hA] at h; exact .inr ⟨_, _, rfl, h⟩
 | cont ρ' s' => rw [e, hA] at h; cases h
 | bad k => rw [e, hA] at h; cases h
theorem asg_next {k : Nat} {e : DE} {C : DS} {ρ : Env} {s : St} (h : okS (sq (asg k e) C ρ s) = true) : ∃ v s', asg k e ρ s = .next (setE k v ρ) s' ∧ okS (C (setE k v ρ) s') = true := by
 have e1 : asg k e ρ s = R.rec (fun v s => .next (setE k v ρ) s) .bad (e ρ s) := rfl
 cases hA : e ρ s with
 | ok v s' =>
  rw [hA] at e1
  rcases sq_next h with ⟨ρ', s'', h1, h2⟩ | ⟨v, s'', h1, h2⟩
  · rw [e1] at h1; cases h1; exact ⟨v, s', e1, h2⟩
  · rw [e1] at h1; cases h1
 | bad k =>
  rw [hA] at e1
  rcases sq_next h with ⟨ρ', s'', h1, h2⟩ | ⟨v, s'', h1, h2⟩
  · rw [e1] at h1; cases h1
  · rw [e1] at h1; cases h1
theorem okS_sq {A C : DS} {ρ ρ' : Env} {s s' : St} (h1 : A ρ s = .next ρ' s') (h2 : okS (C ρ' s') = true) : okS (sq A C ρ s) = true := by rw [f_sq h1]; exact h2
theorem QA_of {LN LN' : DE} {tk : DF} {ρ : Env} {s : St} (h : tcmp .gt LN (cst (.int (.ofNat 1))) ρ s = tcmp .gt LN' (cst (.int (.ofNat 1))) ρ s) : QA LN tk ρ s = QA LN' tk ρ s := by
 have e : ∀ LN, QA LN tk ρ s = R.rec (fun v s => .next (setE 2 v ρ) s) .bad
  (R.rec (fun v s => Bool.rec (lstV [cst (.int (.ofNat 2))] ρ s) (lstV [cst (.int (.ofNat 2)), cst (.int (.ofNat 7))] ρ s) v) .bad
   (R.rec (fun v s => Bool.rec (.ok false s) (tcmp .eq (cal tk [loc 1, cst (.int (.ofNat 2))]) (cst (.int (.ofNat 0))) ρ s) v) .bad (tcmp .gt LN (cst (.int (.ofNat 1))) ρ s) : R Bool) : R V) := fun zz => rfl
 rw [e, e, h]
theorem QM2_of {LN LN' : DE} {ρ : Env} {s : St} (h : tcmp .gt LN (cst (.int (.ofNat 1))) ρ s = tcmp .gt LN' (cst (.int (.ofNat 1))) ρ s) : QM2 LN ρ s = QM2 LN' ρ s := by
 have e1 : ∀ LN, itR2 (cst (.int (.ofNat 1))) (ife (tcmp .gt LN (cst (.int (.ofNat 1)))) (cst (.int (.ofNat 3))) (cst (.int (.ofNat 2)))) ρ s =
  R.rec (fun y s => onI (.int (.ofNat 1)) (.bad 24) fun i => onI y (.bad 24) fun j => Int.rec (fun m => Bool.rec (.bad 24) (Int.rec (fun n => Bool.rec (.bad 24) (.ok (.mk .no (upto (Nat.sub n m) m)) s) (Nat.ble n cap)) (fun zz => .bad 24) j) (Nat.ble m cap)) (fun zz => .bad 24) i) .bad
   (R.rec (fun v s => Bool.rec (cst (.int (.ofNat 2)) ρ s) (cst (.int (.ofNat 3)) ρ s) v) .bad (tcmp .gt LN (cst (.int (.ofNat 1))) ρ s) : R V) := fun zz => rfl
 have e2 : itR2 (cst (.int (.ofNat 1))) (ife (tcmp .gt LN (cst (.int (.ofNat 1)))) (cst (.int (.ofNat 3))) (cst (.int (.ofNat 2)))) ρ s = itR2 (cst (.int (.ofNat 1))) (ife (tcmp .gt LN' (cst (.int (.ofNat 1)))) (cst (.int (.ofNat 3))) (cst (.int (.ofNat 2)))) ρ s := by rw [e1, e1, h]
 have e3 : ∀ (it : DI) (t : DT) (e : DE), asg 4 (lcomp 10 it t e) ρ s = R.rec (fun v s => .next (setE 4 v ρ) s) .bad (R.rec (fun x s => onIt x fun h l => Bool.rec (.bad 36) (R.rec (fun v s => .ok (.lst v) s) .bad (lcs h 10 t e ρ l 0 s)) (Nat.ble (len l) cap)) .bad (it ρ s) : R V) := fun zz zz zz => rfl
 have e4 : ∀ LN, QM2 LN = asg 4 (lcomp 10 (itR2 (cst (.int (.ofNat 1))) (ife (tcmp .gt LN (cst (.int (.ofNat 1)))) (cst (.int (.ofNat 3))) (cst (.int (.ofNat 2))))) tT (mk 15 5 F_PortRow___init__ (fill cst [none, none, none, some (.bool false), some (.bool true)] ([loc 10, cst (.int (.ofNat 128)), mul (cst (.int (.ofNat 10))) (loc 10)] ++ [])))) := fun zz => rfl
 rw [e4, e4, e3, e3, e2]
theorem W_of {LN LN' : DE} {tk : DF} {C : DS} {sc : V} {s : St} (h : ∀ x y s, tcmp .gt LN (cst (.int (.ofNat 1))) (setE 3 y (setE 2 x (ρ0 sc))) s = tcmp .gt LN' (cst (.int (.ofNat 1))) (setE 3 y (setE 2 x (ρ0 sc))) s) (h0 : tcmp .gt LN (cst (.int (.ofNat 1))) (ρ0 sc) s = tcmp .gt LN' (cst (.int (.ofNat 1))) (ρ0 sc) s)
 (hk : okS (sq (QA LN' tk) (sq QM1 (sq (QM2 LN') C)) (ρ0 sc) s) = true) : okS (sq (QA LN tk) (sq QM1 (sq (QM2 LN) C)) (ρ0 sc) s) = true := by
 obtain ⟨v, s1, h1, h2⟩ := asg_next hk
 refine okS_sq ((QA_of h0).trans h1) ?_
 obtain ⟨w, s2, h3, h4⟩ := asg_next h2
 refine okS_sq h3 ?_
 obtain ⟨x, s3, h5, h6⟩ := asg_next h4
 exact okS_sq ((QM2_of (h _ _ _)).trans h5) h6
theorem turn_of {tk on : DF} {C : DS} {ρ : Env} {s : St} (h : okS (bodyC tk on C ρ s) = true) : (∃ ρ' s', body tk on ρ s = .next ρ' s' ∧ okS (C ρ' s') = true) ∨ ∃ v s', body tk on ρ s = .ret v s' ∧ okS (.ret v s') = true := by
 rcases sq_next h with ⟨ρ1, s1, h1, h⟩ | ⟨v, s', h1, h⟩
 · unfold body
   rw [f_sq h1]
   rcases sq_next h with ⟨ρ2, s2, h2, h⟩ | ⟨v, s', h2, h⟩
   · rw [f_sq h2]
     have e : ∀ (t : DT) (a b : DS) ρ s, Mine.iff t a b ρ s = R.rec (fun v s => Bool.rec (b ρ s) (a ρ s) v) .bad (t ρ s) := fun zz zz zz zz zz => rfl
     rw [e] at h ⊢
     cases hq : QB3 ρ2 s2 with
     | bad k => rw [hq] at h; cases h
     | ok v s3 =>
      rw [hq] at h
      cases v with
      | false => exact .inl ⟨_, _, rfl, h⟩
      | true =>
       show (∃ ρ' s', sq (QC1 on) QC2 ρ2 s3 = .next ρ' s' ∧ _) ∨ ∃ v s', sq (QC1 on) QC2 ρ2 s3 = .ret v s' ∧ _
       rcases sq_next (h : okS (sq (QC1 on) (sq QC2 C) ρ2 s3) = true) with ⟨ρ4, s4, h4, h⟩ | ⟨v, s', h4, h⟩
       · rw [f_sq h4]
         rcases sq_next h with ⟨ρ5, s5, h5, h⟩ | ⟨v, s', h5, h⟩
         · exact .inl ⟨_, _, h5, h⟩
         · exact .inr ⟨_, _, h5, h⟩
       · exact .inr ⟨_, _, f_sqr h4, h⟩
   · exact .inr ⟨_, _, f_sqr h2, h⟩
 · exact .inr ⟨_, _, f_sqr h1, h⟩
theorem forL_next {a : DA} {b : DS} {v : V} {l : List V} {i : Nat} {ρ ρ1 ρ2 : Env} {s s1 s2 : St} (h1 : a v ρ s = .next ρ1 s1) (h2 : b ρ1 s1 = .next ρ2 s2) : forL .no a b (v :: l) i ρ s = forL .no a b l (Nat.succ i) ρ2 s2 := by
 show (RS.rec (fun ρ s => RS.rec (fun ρ s => forL .no a b l (Nat.succ i) ρ s) (fun v s => .ret v s) (fun ρ s => forL .no a b l (Nat.succ i) ρ s) .bad (b ρ s)) (fun v s => .ret v s) (fun ρ s => .cont ρ s) .bad (a v ρ s) : RS) = _
 rw [h1]
 show (RS.rec (fun ρ s => forL .no a b l (Nat.succ i) ρ s) (fun v s => .ret v s) (fun ρ s => forL .no a b l (Nat.succ i) ρ s) .bad (b ρ1 s1) : RS) = _
 rw [h2]
theorem forL_ret {a : DA} {b : DS} {v w : V} {l : List V} {i : Nat} {ρ ρ1 : Env} {s s1 s2 : St} (h1 : a v ρ s = .next ρ1 s1) (h2 : b ρ1 s1 = .ret w s2) : forL .no a b (v :: l) i ρ s = .ret w s2 := by
 show (RS.rec (fun ρ s => RS.rec (fun ρ s => forL .no a b l (Nat.succ i) ρ s) (fun v s => .ret v s) (fun ρ s => forL .no a b l (Nat.succ i) ρ s) .bad (b ρ s)) (fun v s => .ret v s) (fun ρ s => .cont ρ s) .bad (a v ρ s) : RS) = _
 rw [h1]
 show (RS.rec (fun ρ s => forL .no a b l (Nat.succ i) ρ s) (fun v s => .ret v s) (fun ρ s => forL .no a b l (Nat.succ i) ρ s) .bad (b ρ1 s1) : RS) = _
 rw [h2]
inductive Runs (b : DS) (C : DS) : List V → Env → St → Prop
 | nil {ρ s} : okS (C ρ s) = true → Runs b C [] ρ s
 | next {v l ρ s ρ' s'} : b (setE 5 v ρ) s = .next ρ' s' → Runs b C l ρ' s' → Runs b C (v :: l) ρ s
 | ret {v l ρ s w s'} : b (setE 5 v ρ) s = .ret w s' → okS (.ret w s') = true → Runs b C (v :: l) ρ s
section
variable {tk on : DF} {C : DS} {ρ : Env} {s : St}
theorem Runs.okS {b C : DS} : ∀ {l : List V} {i : Nat} {ρ : Env} {s : St}, Runs b C l ρ s → Mine.okS (RS.rec (fun ρ s => C ρ s) (fun v s => .ret v s) (fun ρ s => .cont ρ s) .bad (forL .no (aN 5) b l i ρ s) : RS) = true
 | _, _, _, _, .nil h => h
 | _, i, ρ, s, .next h r => by rw [forL_next (ρ1 := setE 5 _ ρ) (s1 := s) rfl h]; exact r.okS
 | _, i, ρ, s, .ret h r => by rw [forL_ret (ρ1 := setE 5 _ ρ) (s1 := s) rfl h]; exact r
theorem for_of {it : DI} {b C : DS} {l : List V} {s' : St} (h : it ρ s = .ok (.mk .no l) s') (r : Runs b C l ρ s') : okS (sq (forS (aN 5) it b) C ρ s) = true := by
 have e : sq (forS (aN 5) it b) C ρ s = (RS.rec (fun ρ s => C ρ s) (fun v s => .ret v s) (fun ρ s => .cont ρ s) .bad (R.rec (fun x s => onIt x fun h l => forL h (aN 5) b l 0 ρ s) .bad (it ρ s) : RS) : RS) := rfl
 rw [e, h]; exact r.okS
theorem turn_runs {v : V} {l : List V} (h : okS (turn (bodyC tk on) v C ρ s) = true) (hr : ∀ ρ s, okS (C ρ s) = true → Runs (body tk on) QT l ρ s) : Runs (body tk on) QT (v :: l) ρ s := by
 have h : okS (bodyC tk on C (setE 5 v ρ) s) = true := h
 rcases turn_of h with ⟨ρ', s', h1, h2⟩ | ⟨w, s', h1, h2⟩
 · exact .next h1 (hr _ _ h2)
 · exact .ret h1 h2
theorem lp1_of {it : DI} (h : okS (lp1 it (bodyC tk on) QT ρ s) = true) : okS (sq (forS (aN 5) it (body tk on)) QT ρ s) = true := by
 have e : lp1 it (bodyC tk on) QT ρ s = R.rec (fun x s => onIt x fun h l => OL.rec (match (generalizing := false) l with | [v] => turn (bodyC tk on) v QT ρ s | _ => .bad 302) (fun zz => .bad 302) h) .bad (it ρ s) := rfl
 rw [e] at h
 cases hi : it ρ s with
 | bad k => rw [hi] at h; cases h
 | ok x s' =>
  rw [hi] at h
  obtain ⟨o, l⟩ := x
  cases o with
  | «at» y => cases h
  | no =>
   have h : okS (match (generalizing := false) l with | [v] => turn (bodyC tk on) v QT ρ s' | _ => .bad 302) = true := h
   split at h
   · exact for_of hi (turn_runs h fun zz zz h => .nil h)
   · cases h
theorem lp2_of {it : DI} (h : okS (lp2 it (bodyC tk on) (bodyC tk on) QT ρ s) = true) : okS (sq (forS (aN 5) it (body tk on)) QT ρ s) = true := by
 have e : lp2 it (bodyC tk on) (bodyC tk on) QT ρ s = R.rec (fun x s => onIt x fun h l => OL.rec (match (generalizing := false) l with | [v, v'] => turn (bodyC tk on) v (turn (bodyC tk on) v' QT) ρ s | _ => .bad 302) (fun zz => .bad 302) h) .bad (it ρ s) := rfl
 rw [e] at h
 cases hi : it ρ s with
 | bad k => rw [hi] at h; cases h
 | ok x s' =>
  rw [hi] at h
  obtain ⟨o, l⟩ := x
  cases o with
  | «at» y => cases h
  | no =>
   have h : okS (match (generalizing := false) l with | [v, v'] => turn (bodyC tk on) v (turn (bodyC tk on) v' QT) ρ s' | _ => .bad 302) = true := h
   split at h
   · exact for_of hi (turn_runs h fun zz zz h => turn_runs h fun zz zz h => .nil h)
   · cases h
end
section
variable {ι : Type} {real : DF} {fam : ι → DF}
theorem Gd.lp1 [Inhabited ι] {it : DI} {b : DF → DS → DS} {C : DS} (g : Gd real fam fun tk => b tk C) : Gd real fam fun tk => lp1 it (b tk) C := fun ρ s h => by
 have e : ∀ tk, Mine.lp1 it (b tk) C ρ s = R.rec (fun x s => onIt x fun h l => OL.rec (match (generalizing := false) l with | [v] => turn (b tk) v C ρ s | _ => .bad 302) (fun zz => .bad 302) h) .bad (it ρ s) := fun zz => rfl
 replace h : ∀ i, okS (Mine.lp1 it (b (fam i)) C ρ s) = true := h
 show okS (Mine.lp1 it (b real) C ρ s) = true
 cases hi : it ρ s with
 | bad k => have := h default; rw [e, hi] at this; cases this
 | ok x s' =>
  obtain ⟨o, l⟩ := x
  cases o with
  | «at» y => have := h default; rw [e, hi] at this; cases this
  | no =>
   match l with
   | [v] =>
    have e' : ∀ tk, Mine.lp1 it (b tk) C ρ s = turn (b tk) v C ρ s' := fun tk => by rw [e, hi]; rfl
    rw [e']
    exact (Gd.sq (A := fun ρ s => aN 5 v ρ s) g) ρ s' fun i => (congrArg okS (e' (fam i))).symm.trans (h i)
   | [] => have := h default; rw [e, hi] at this; cases this
   | _ :: _ :: _ => have := h default; rw [e, hi] at this; cases this
theorem Gd.lp2 [Inhabited ι] {it : DI} {b b' : DF → DS → DS} {C : DS} (g : ∀ v v', Gd real fam fun tk => turn (b tk) v (turn (b' tk) v' C)) : Gd real fam fun tk => lp2 it (b tk) (b' tk) C := fun ρ s h => by
 have e : ∀ tk, Mine.lp2 it (b tk) (b' tk) C ρ s = R.rec (fun x s => onIt x fun h l => OL.rec (match (generalizing := false) l with | [v, v'] => turn (b tk) v (turn (b' tk) v' C) ρ s | _ => .bad 302) (fun zz => .bad 302) h) .bad (it ρ s) := fun zz => rfl
 replace h : ∀ i, okS (Mine.lp2 it (b (fam i)) (b' (fam i)) C ρ s) = true := h
 show okS (Mine.lp2 it (b real) (b' real) C ρ s) = true
 cases hi : it ρ s with
 | bad k => have := h default; rw [e, hi] at this; cases this
 | ok x s' =>
  obtain ⟨o, l⟩ := x
  cases o with
  | «at» y => have := h default; rw [e, hi] at this; cases this
  | no =>
   match l with
   | [v, v'] =>
    have e' : ∀ tk, Mine.lp2 it (b tk) (b' tk) C ρ s = turn (b tk) v (turn (b' tk) v' C) ρ s' := fun tk => by rw [e, hi]; rfl
    rw [e']
    exact g v v' ρ s' fun i => (congrArg okS (e' (fam i))).symm.trans (h i)
   | [] => have := h default; rw [e, hi] at this; cases this
   | [_] => have := h default; rw [e, hi] at this; cases this
   | _ :: _ :: _ :: _ => have := h default; rw [e, hi] at this; cases this
end
theorem Gd.iff2 {ι : Type} {real : DF} {fam : ι → DF} [Inhabited ι] {t : DT} {X Y : DF → DS} (g : Gd real fam X) (g' : Gd real fam Y) : Gd real fam fun tk => Mine.iff t (X tk) (Y tk) := fun ρ s h => by
 replace h : ∀ i, okS (Mine.iff t (X (fam i)) (Y (fam i)) ρ s) = true := h
 show okS (Mine.iff t (X real) (Y real) ρ s) = true
 have e : ∀ tk, Mine.iff t (X tk) (Y tk) ρ s = R.rec (fun v s => Bool.rec (Y tk ρ s) (X tk ρ s) v) .bad (t ρ s) := fun zz => rfl
 cases hA : t ρ s with
 | ok v s' =>
  cases v with
  | true =>
   have e' : ∀ tk, Mine.iff t (X tk) (Y tk) ρ s = X tk ρ s' := fun tk => by rw [e, hA]
   rw [e']; exact g _ _ fun i => e' _ ▸ h i
  | false =>
   have e' : ∀ tk, Mine.iff t (X tk) (Y tk) ρ s = Y tk ρ s' := fun tk => by rw [e, hA]
   rw [e']; exact g' _ _ fun i => e' _ ▸ h i
 | bad k => have := h default; rw [e, hA] at this; cases this
theorem gB {ι : Type} {real : DF} {fam : ι → DF} [Inhabited ι] {tk on : DF} {X : DF → DS} (g : Gd real fam X) : Gd real fam fun x => bodyC tk on (X x) := (Gd.iff2 (Gd.sq (Gd.sq g)) g).sq.sq
theorem fin1 (sc : V) (a b n : Int) : okS (W1 (cst (.int (.ofNat 1))) F__law_take (bodyC F__law_take F__law_one) (ρ0 sc) (S3 a b n)) = true := by
 have G1 : ∀ on, Gd F__law_take (famT 4) fun tk => W1 (cst (.int (.ofNat 1))) F__law_take (bodyC tk on) := fun on => (Gd.lp1 (b := fun tk => bodyC tk on) gT1).sq.sq.sq.sq
 have G2 : Gd F__law_one fam1 fun on => W1 (cst (.int (.ofNat 1))) F__law_take (bodyC F__law_take on) := (Gd.lp1 (b := fun on => bodyC F__law_take on) gT2).sq.sq.sq.sq
 refine G2 _ _ fun j => G1 _ _ _ fun i => ?_
 exact allV1 ⟨sc, a, b, n, 0, 0, i.2.1, i.2.2, j.2.1, j.2.2, 0, 0, 0, 0⟩ i.1.1 j.1.1 i.1.2 j.1.2
theorem fin2 (sc : V) (a b n : Int) : okS (W2 (cst (.int (.ofNat 2))) F__law_take (bodyC F__law_take F__law_one) (bodyC F__law_take F__law_one) (ρ0 sc) (S3 a b n)) = true := by
 have G0 : ∀ b b', Gd F__law_take (famT 2) fun tk => W2 (cst (.int (.ofNat 2))) tk b b' := fun b b' => gA
 have G1 : ∀ on b', Gd F__law_take (famT 4) fun tk => W2 (cst (.int (.ofNat 2))) F__law_take (bodyC tk on) b' := fun on b' => (Gd.lp2 (b := fun tk => bodyC tk on) (b' := fun zz => b') fun v v' => gT1.sq).sq.sq.sq.sq
 have G2 : ∀ b', Gd F__law_one fam1 fun on => W2 (cst (.int (.ofNat 2))) F__law_take (bodyC F__law_take on) b' := fun b' => (Gd.lp2 (b := fun on => bodyC F__law_take on) (b' := fun zz => b') fun v v' => gT2.sq).sq.sq.sq.sq
 have G3 : ∀ on, Gd F__law_take (famT 4) fun tk => W2 (cst (.int (.ofNat 2))) F__law_take (bodyC F__law_take F__law_one) (bodyC tk on) := fun on => (Gd.lp2 (b := fun zz => bodyC F__law_take F__law_one) (b' := fun tk => bodyC tk on) fun v v' => (gB (Gd.sq gT1)).sq).sq.sq.sq.sq
 have G4 : Gd F__law_one fam1 fun on => W2 (cst (.int (.ofNat 2))) F__law_take (bodyC F__law_take F__law_one) (bodyC F__law_take on) := (Gd.lp2 (b := fun zz => bodyC F__law_take F__law_one) (b' := fun on => bodyC F__law_take on) fun v v' => (gB (Gd.sq gT2)).sq).sq.sq.sq.sq
 refine G4 _ _ fun m => G3 _ _ _ fun l => G2 _ _ _ fun j => G1 _ _ _ _ fun i => G0 _ _ _ _ fun k => ?_
 exact allV2 ⟨sc, a, b, n, k.2.1, k.2.2, i.2.1, i.2.2, j.2.1, j.2.2, l.2.1, l.2.2, m.2.1, m.2.2⟩ k.1.1 i.1.1 j.1.1 l.1.1 m.1.1 k.1.2 i.1.2 j.1.2 l.1.2 m.1.2
theorem cmpI_ofNat (i : Int) (k : Nat) : (i < k → cmpI i (.ofNat k) = .lt) ∧ (i = k → cmpI i (.ofNat k) = .eq) ∧ ((k : Int) < i → cmpI i (.ofNat k) = .gt) := by
 rcases cmpI_cases i (.ofNat k) with ⟨h, h2⟩ | ⟨h, h2⟩ | ⟨h, h2⟩
 · have h2 : i = (k : Int) := h2
   exact ⟨fun zz => by omega, fun zz => h, fun zz => by omega⟩
 · have h2 : i < (k : Int) := h2
   exact ⟨fun zz => h, fun zz => by omega, fun zz => by omega⟩
 · have h2 : (k : Int) < i := h2
   exact ⟨fun zz => by omega, fun zz => by omega, fun zz => h⟩
def sc (ns : List Int) : V := .lst (ns.map .int)
theorem pool (x : Int) (ns : List Int) : ∃ a b, F__law_pool [sc (x :: ns), .ref 0] ⟨.node L0 .nil .nil, 1⟩ = .ok (.ref 1) (S0 a b) := by
 have hF : ∀ {v : V} {s s' : St}, D__law_pool (Mine.env [sc (x :: ns), .ref 0] 3) s = .ret v s' → F__law_pool [sc (x :: ns), .ref 0] s = .ok v s' := by
  intro v s s' e
  show (RS.rec (fun zz s => .ok .none s) (fun v s => .ok v s) (fun zz zz => .bad 45) .bad (D__law_pool (Mine.env [sc (x :: ns), .ref 0] 3) s) : R V) = _
  rw [e]
 have h3 : ∃ big, bMax (loc 2) (sub (cst (.int (.negSucc 0))) (loc 2)) (.cons (sc (x :: ns)) (.cons (.ref 0) (.cons (.int x) (.un (.un .nil))))) ⟨.node L0 .nil .nil, 1⟩ = .ok (.int big) ⟨.node L0 .nil .nil, 1⟩ := by
  show ∃ big, (Bool.rec (.ok (.int x) _) (.ok (.int (subI (.negSucc 0) x)) _) (ltI x (subI (.negSucc 0) x)) : R V) = _
  cases ltI x (subI (.negSucc 0) x) with
  | true => exact ⟨_, rfl⟩
  | false => exact ⟨_, rfl⟩
 obtain ⟨big, h3⟩ := h3
 obtain ⟨j, hj⟩ : ∃ j : Nat, (R.rec (fun t s => .ok (.bool t) s) .bad (rC false true true (cmpI big (.ofNat 1000000000000000000)) ⟨.node L0 .nil .nil, 1⟩) : R V) = .ok (.bool (Nat.beq j 1)) ⟨.node L0 .nil .nil, 1⟩ ∧ j < 2 := by
  rcases cmpI_cases big (.ofNat 1000000000000000000) with ⟨h, _⟩ | ⟨h, _⟩ | ⟨h, _⟩
  · rw [h]; exact ⟨1, rfl, by decide⟩
  · rw [h]; exact ⟨0, rfl, by decide⟩
  · rw [h]; exact ⟨1, rfl, by decide⟩
 obtain ⟨m, hm⟩ : ∃ m, fmodI (mulI (addI (fmodI big (.ofNat 2147483629)) (.ofNat 17)) (.ofNat 48271)) (.ofNat 2147483647) = m := ⟨_, rfl⟩
 refine ⟨mulI big (.ofNat j), m, hF ?_⟩
 unfold D__law_pool
 refine (f_sq (s1 := ⟨.node L0 .nil .nil, 1⟩) (ρ' := .cons (sc (x :: ns)) (.cons (.ref 0) (.cons (.int x) (.un (.un .nil))))) rfl).trans ?_
 refine (f_sq (f_asg h3)).trans ?_
 refine (f_sq (s1 := ⟨.node L0 .nil .nil, 1⟩) (ρ' := .cons (sc (x :: ns)) (.cons (.ref 0) (.cons (.int x) (.cons (.int big) (.cons (.int m) .nil))))) (by rw [← hm]; rfl)).trans ?_
 refine f_ret ?_
 have e1 : mul (loc 3) (bInt (vT (tcmp .ge (loc 3) (cst (.int (.ofNat 1000000000000000000)))))) (.cons (sc (x :: ns)) (.cons (.ref 0) (.cons (.int x) (.cons (.int big) (.cons (.int m) .nil))))) ⟨.node L0 .nil .nil, 1⟩ = .ok (.int (mulI big (.ofNat j))) ⟨.node L0 .nil .nil, 1⟩ := by
  refine f_mul ?_ rfl (s2 := ⟨.node L0 .nil .nil, 1⟩) (j := .ofNat j) ?_
  · show Nat.ble j 1000000000000000000 = true
    exact Nat.ble_eq_true_of_le (by omega)
  · show (R.rec (fun v s => @V.rec (fun zz => R V) (fun zz => Unit) (fun zz => Unit) (fun zz => Unit) (.bad 18) (fun b => .ok (.int (.ofNat (Bool.rec 0 1 b))) s) (fun zz => .bad 18) (fun zz => .bad 18) (fun zz => .bad 18) (fun zz zz => .bad 18) (fun zz zz => .bad 18) (fun zz zz => .bad 18) (fun zz => .bad 18) () (fun zz zz zz zz => ()) () (fun zz zz zz zz => ()) (fun zz zz zz zz => ()) v) .bad (R.rec (fun t s => .ok (.bool t) s) .bad (rC false true true (cmpI big (.ofNat 1000000000000000000)) ⟨.node L0 .nil .nil, 1⟩) : R V) : R V) = _
    rw [hj.1]
    have := hj.2
    match j, this with
    | 0, _ => rfl
    | 1, _ => rfl
 have e2 := f_evs e1 (f_evs (v := .int m) (e := loc 4) (s1 := ⟨.node L0 .nil .nil, 1⟩) rfl (f_evs (v := .lst []) (e := ife (tcmp .eq (loc 0) (lstV [])) (loc 1) (lstV [])) (s1 := ⟨.node L0 .nil .nil, 1⟩) rfl f_evs0))
 show (R.rec (fun v s => new (.list v) s) .bad (evs _ _ _) : R V) = _
 rw [e2]; rfl
theorem len_sc (x : Int) (ns : List Int) (h : ns.length ≤ 62) (ρ : Env) (s : St) (hρ : loc 0 ρ s = .ok (sc (x :: ns)) s) : bLen strLen (loc 0) ρ s = .ok (.int (.ofNat (ns.length + 1))) s := by
 show (R.rec (fun v s => OL.rec (.bad 15) (fun n => .ok (.int (.ofNat n)) s) (lenV v s strLen)) .bad (loc 0 ρ s) : R V) = _
 rw [hρ]
 show (OL.rec (.bad 15) (fun n => .ok (.int (.ofNat n)) s) (capL (len ((x :: ns).map V.int))) : R V) = _
 rw [len_eq, List.length_map]
 show (OL.rec (.bad 15) (fun n => .ok (.int (.ofNat n)) s) (Bool.rec .no (.at (ns.length + 1)) (Nat.ble (ns.length + 1) 4096)) : R V) = _
 rw [Nat.ble_eq_true_of_le (by omega)]
theorem gt_sc (x : Int) (ns : List Int) (h : ns.length ≤ 62) (ρ : Env) (s : St) (hρ : loc 0 ρ s = .ok (sc (x :: ns)) s) : tcmp .gt (bLen strLen (loc 0)) (cst (.int (.ofNat 1))) ρ s = .ok (decide (ns ≠ [])) s := by
 rw [f_tcmp (len_sc x ns h ρ s hρ) (y := .int (.ofNat 1)) (s2 := s) rfl]
 show rC false false true (cmpI (.ofNat (ns.length + 1)) (.ofNat 1)) s = _
 cases ns with
 | nil => rfl
 | cons y ns =>
  rw [(cmpI_ofNat _ 1).2.2 (by show ((1 : Nat) : Int) < (((y :: ns).length + 1 : Nat) : Int); simp; omega)]
  rfl
theorem okS_mono {A C C' : DS} (k : ∀ ρ s, okS (C ρ s) = true → okS (C' ρ s) = true) (ρ : Env) (s : St) (h : okS (sq A C ρ s) = true) : okS (sq A C' ρ s) = true := by
 rcases sq_next h with ⟨ρ', s', h1, h2⟩ | ⟨v, s', h1, h2⟩
 · exact okS_sq h1 (k _ _ h2)
 · rw [f_sqr h1]; exact h2
theorem law0 : okS (D_law (Mine.env [sc []] 10) ⟨.nil, 0⟩) = true := by kernel_rfl
theorem lawS (ns : List Int) (h : ns.length ≤ 63) : okS (D_law (Mine.env [sc ns] 10) ⟨.nil, 0⟩) = true := by
 cases ns with
 | nil => exact law0
 | cons x ns =>
  have h : ns.length ≤ 62 := by simpa using h
  rw [D_law_eq]
  obtain ⟨a, b, hp⟩ := pool x ns
  obtain ⟨a', b', n, hv⟩ := vr a b
  refine okS_sq (ρ' := ρ0 (sc (x :: ns))) (s' := S0 a b) ?_ ?_
  · exact f_asg ((f_cal (vs := [sc (x :: ns), .ref 0]) (s1 := ⟨.node L0 .nil .nil, 1⟩) rfl).trans hp)
  refine okS_sq (ρ' := ρ0 (sc (x :: ns))) (s' := S3 a' b' n) ?_ ?_
  · have e1 : cal F__law_vectors_right [loc 1] (ρ0 (sc (x :: ns))) (S0 a b) = .ok (.bool true) (S3 a' b' n) := (f_cal (vs := [.ref 1]) (s1 := S0 a b) rfl).trans hv
    have e2 : tnot (tE (cal F__law_vectors_right [loc 1])) (ρ0 (sc (x :: ns))) (S0 a b) = .ok false (S3 a' b' n) := by
     show (R.rec (fun v s => .ok (Bool.rec true false v) s) .bad (R.rec (fun v s => truthy v s) .bad (cal F__law_vectors_right [loc 1] (ρ0 (sc (x :: ns))) (S0 a b)) : R Bool) : R Bool) = _
     rw [e1]; rfl
    exact (f_iff e2).trans rfl
  cases hns : ns with
  | nil =>
   have k : okS (sq (QA (cst (.int (.ofNat 1))) F__law_take) (sq QM1 (sq (QM2 (cst (.int (.ofNat 1)))) (sq QM3 (sq (forS (aN 5) QIt (body F__law_take F__law_one)) QT)))) (ρ0 (sc (x :: ns))) (S3 a' b' n)) = true := by
    exact okS_mono (okS_mono (okS_mono (okS_mono fun zz zz => lp1_of))) _ _ (fin1 _ a' b' n)
   rw [← hns]
   refine W_of (fun zz zz s => ?_) ?_ k
   · rw [gt_sc x ns h _ s rfl, hns]; rfl
   · rw [gt_sc x ns h _ _ rfl, hns]; rfl
  | cons y l =>
   have k : okS (sq (QA (cst (.int (.ofNat 2))) F__law_take) (sq QM1 (sq (QM2 (cst (.int (.ofNat 2)))) (sq QM3 (sq (forS (aN 5) QIt (body F__law_take F__law_one)) QT)))) (ρ0 (sc (x :: ns))) (S3 a' b' n)) = true := by
    exact okS_mono (okS_mono (okS_mono (okS_mono fun zz zz => lp2_of))) _ _ (fin2 _ a' b' n)
   rw [← hns]
   refine W_of (fun zz zz s => ?_) ?_ k
   · rw [gt_sc x ns h _ s rfl, hns]; rfl
   · rw [gt_sc x ns h _ _ rfl, hns]; rfl
theorem law_true (ns : List Int) (h : ns.length ≤ 63) : ∃ s, F_law [sc ns] ⟨.nil, 0⟩ = .ok (.bool true) s := by
 obtain ⟨s, e⟩ := okS_inv (lawS ns h)
 refine ⟨s, ?_⟩
 show (RS.rec (fun zz s => .ok .none s) (fun v s => .ok v s) (fun zz zz => .bad 45) .bad (D_law (Mine.env [sc ns] 10) ⟨.nil, 0⟩) : R V) = _
 rw [e]
end
end Mine
end
section
namespace Mine
open PySem PySem.W PySem.Calls PyProof.Rows
noncomputable section
noncomputable def pn : Program := PySem.Challenge.pw_pc0388_01
noncomputable def passS : Stmt := .Pass ⟨0, 0, 0, 0⟩
noncomputable def stm (i : Nat) : Stmt := pn.main.body.getD i passS
noncomputable def stc (i j : Nat) : Stmt := match stm i with
 | .ClassDef _ _ _ b _ _ _ _ _ _ _ => b.getD j passS
 | s => s
noncomputable def fd (s : Stmt) (n q : Str) (dV kV doc pm code ct : Value) : FuncData := match s with
 | .FunctionDef _ args body _ _ _ scope _ _ _ => { name := n, qualname := q, params := args, body := .stmts body, scope, globals := 3, closure := [], defaults := dV, kwdefaults := kV, doc, pyModule := pm, code, closureTuple := ct, builtins := 0 }
 | _ => default
noncomputable def fc (s : Stmt) (n q : Str) : FuncData := match s with
 | .FunctionDef _ args body _ _ _ scope _ _ _ => { name := n, qualname := q, params := args, body := .stmts body, scope, globals := 0, closure := [], defaults := .none, kwdefaults := .none, builtins := 0 }
 | _ => default
noncomputable def nmS (s : Stmt) : Str := match s with
 | .FunctionDef n _ _ _ _ _ _ _ _ _ => n
 | .ClassDef n _ _ _ _ _ _ _ _ _ _ => n
 | _ => default
noncomputable def qnS (i j : Nat) : Str := ⟨(nmS (stm i)).cps ++ (#[46] : Array Nat) ++ (nmS (stc i j)).cps⟩
noncomputable def ks (P : Params) (q : Str) (t : Nat) (v : Value) : DictEntry := ⟨PyData.keyHash P q, .str q t, v⟩
namespace Z
noncomputable def s (q : Str) (t : Nat) : Value := .str q t
noncomputable def e (q : Str) (t : Nat) (v : Value) : Str × Nat × Value := (q, t, v)
noncomputable def r (a : Nat) : Value := .ref a
noncomputable def ob (c : String) (d : Data) : Obj := ⟨.type c, none, d, ⟨[]⟩⟩
noncomputable def on (d : Data) : Obj := ⟨.none, none, d, ⟨[]⟩⟩
noncomputable def dk (P : Params) (n : Nat) (l : List (Str × Nat × Value)) : Obj := ob "dict" (.dict ⟨l.map fun x => ks P x.1 x.2.1 x.2.2⟩ n)
noncomputable def co (n q : Str) (t a b c d e f : Nat) (g : Bool) (i h : Nat) (v w x y : Value) (j k z : Nat) : Obj := ob "code" (.fields ⟨[.str n t, .str q (t + 1), .str "/claim/cut.py" (t + 2), .int a 0, .int b 0, .int c 0, .int d 0, .int e 0, .ref f, .bool g, .int i 0, .ref h, v, w, x, y, .int j 0, .int k 0, .str "/claim/cut.py" z]⟩)
noncomputable def fmd (i d : Nat) (m : Str) (t c : Nat) : Obj := ob "function" (.func (fd (stm i) (nmS (stm i)) (nmS (stm i)) (.ref d) .none .none (.str m t) (.ref c) .none))
noncomputable def fm (i : Nat) (m : Str) (t c : Nat) : Obj := ob "function" (.func (fd (stm i) (nmS (stm i)) (nmS (stm i)) .none .none .none (.str m t) (.ref c) .none))
noncomputable def fcd (i j d : Nat) (m : Str) (t c : Nat) : Obj := ob "function" (.func (fd (stc i j) (nmS (stc i j)) (qnS i j) (.ref d) .none .none (.str m t) (.ref c) .none))
noncomputable def fcc (i j : Nat) (m : Str) (t c : Nat) : Obj := ob "function" (.func (fd (stc i j) (nmS (stc i j)) (qnS i j) .none .none .none (.str m t) (.ref c) .none))
noncomputable def gm (i : Nat) : Obj := on (.func (fc (stm i) (nmS (stm i)) (nmS (stm i))))
noncomputable def gc (i j : Nat) : Obj := on (.func (fc (stc i j) (nmS (stc i j)) (qnS i j)))
noncomputable def tu (l : List (Str × Nat)) : Obj := ob "tuple" (.seq ⟨l.map fun x => .str x.1 x.2⟩ 0)
noncomputable def tv (l : List Value) : Obj := ob "tuple" (.seq ⟨l⟩ 0)
noncomputable def trL : List (Nat × Nat × Nat) → List Value
 | [] => []
 | (a, b, c) :: l => .int a 0 :: .int b 0 :: .ref c :: trL l
noncomputable def tr (l : List (Nat × Nat × Nat)) : Obj := on (.fields ⟨trL l⟩)
noncomputable def fr (a b c : Nat) (q : Str) (t z : Nat) : Obj := ⟨.type "frame", none, .plain, ⟨[some (.ref a), some (.ref b), some (.ref c), none, some (.str q t), none, some (.ref z)]⟩⟩
noncomputable def gs (q : Str) (t a : Nat) (b : String) (v : Value) : Obj := ob "getset_descriptor" (.fields ⟨[.str q t, .ref a, .builtin b, v]⟩)
noncomputable def bf (b : String) (a : Nat) : Obj := ob "builtin_function_or_method" (.fields ⟨[.builtin b, .ref a]⟩)
noncomputable def su (a b c : Nat) : Obj := ob "super" (.fields ⟨[.ref a, .ref b, .ref c]⟩)
noncomputable def cl (q : Str) (b m : List Value) (n : Nat) (u : List Value) (l : List (Option Value)) : Obj := ⟨.type "type", none, .cls ⟨q, b, m, n, q, true, [], u, false, none, false⟩, ⟨l⟩⟩
end Z
open Z
noncomputable def fz : List (Nat × Nat × Nat) := [(1, 0, 20), (5, 0, 27), (10, 0, 47), (12, 0, 59), (14, 0, 71), (16, 0, 83), (28, 0, 105), (41, 0, 140), (68, 0, 176), (70, 0, 181), (74, 0, 188), (79, 0, 195), (81, 0, 202), (86, 0, 209), (89, 0, 216), (94, 0, 223), (103, 0, 230), (105, 0, 237), (108, 0, 244), (110, 0, 249), (113, 0, 256), (119, 0, 263), (124, 0, 270), (145, 0, 284), (147, 0, 289), (151, 0, 296), (157, 0, 303), (165, 0, 308), (173, 0, 313), (178, 0, 318), (184, 0, 323), (188, 0, 330), (195, 0, 342), (222, 0, 395), (230, 0, 402), (236, 0, 410), (255, 0, 445), (267, 0, 475), (269, 0, 480), (275, 0, 485), (278, 0, 490), (284, 0, 495), (295, 0, 502), (300, 0, 509), (304, 0, 516), (306, 0, 523), (308, 0, 530), (310, 0, 537), (314, 0, 544), (319, 0, 551), (323, 0, 558), (327, 0, 565), (341, 0, 572), (347, 0, 579), (357, 0, 586), (360, 0, 593), (362, 0, 600), (375, 0, 607), (382, 0, 614), (387, 0, 622), (396, 0, 643), (404, 0, 650), (406, 0, 657), (411, 0, 664), (414, 0, 671), (418, 0, 678), (423, 0, 685), (428, 0, 692), (437, 0, 699), (442, 0, 706), (447, 0, 713), (460, 0, 720), (469, 0, 727), (474, 0, 734), (494, 0, 741), (500, 0, 748), (503, 0, 753), (505, 0, 760), (521, 0, 765), (542, 0, 772), (551, 0, 779), (572, 0, 786), (584, 0, 793), (590, 0, 800), (599, 0, 807), (626, 0, 842), (668, 0, 891), (683, 0, 916), (685, 0, 923), (690, 0, 928), (694, 0, 935), (706, 0, 942), (712, 0, 949), (726, 0, 957), (879, 0, 1161), (891, 0, 1190), (896, 0, 1197), (905, 0, 1204), (907, 0, 1209), (927, 0, 1216), (938, 0, 1221), (960, 0, 1226)]
noncomputable def gz : List (Str × Nat × Value) := [e "__name__" 165 (s "law_pc0388_01" 2021), e "__doc__" 166 .none, e "__package__" 167 .none, e "__loader__" 168 (.builtin "__main__.__loader__#opaque"), e "__spec__" 169 .none, e "__annotations__" 170 (r 6), e "__builtins__" 171 (r 4), e "__file__" 173 (s "/claim/cut.py" 172), e "__cached__" 174 .none, e "_wall" 193 (r 21), e "SwitchError" 224 (r 38), e "FormError" 240 (r 51), e "SizeError" 256 (r 63), e "StateError" 272 (r 75), e "SettingError" 299 (r 95), e "KINDS" 311 (r 98), e "ROLES" 316 (r 99), e "KNOWN" 318 (.int 3 317), e "CONFIG_SIZE" 320 (.int 35 319), e "RAPID_SIZE" 322 (.int 36 321), e "CHANGE_SIZE" 324 (.int 4 323), e "Times" 374 (r 130), e "Bpdu" 444 (r 166), e "changed_notice" 450 (r 177), e "number_octets" 456 (r 182), e "octets_number" 465 (r 189), e "bridge_octets" 472 (r 196), e "port_octets" 481 (r 203), e "vector_octets" 492 (r 210), e "times_octets" 501 (r 217), e "pack_bpdu" 510 (r 224), e "read_bridge" 517 (r 231), e "read_port" 525 (r 238), e "read_vector" 532 (r 245), e "read_times" 538 (r 250), e "read_tail" 547 (r 257), e "kind_of" 555 (r 264), e "unpack_bpdu" 568 (r 271), e "BLOCK_SIZE" 572 (.int 64 571), e "LOW_BITS" 574 (.int 4294967295 573), e "START_WORDS" 579 (r 272), e "ROUND_TURNS" 596 (r 277), e "SINE_PARTS" 661 (r 278), e "turned_left" 669 (r 285), e "filled_octets" 675 (r 290), e "block_words" 688 (r 297), e "step_parts" 698 (r 304), e "block_digest" 704 (r 309), e "md5_digest" 710 (r 314), e "md5_with_key" 716 (r 319), e "put_number" 724 (r 324), e "put16" 731 (r 331), e "REGION_KEY" 751 (.bytes ⟨[19, 172, 6, 166, 46, 71, 253, 81, 249, 93, 43, 162, 67, 205, 3, 70]⟩ 750), e "NAME_SIZE" 753 (.int 32 752), e "REGION_SIZE" 755 (.int 51 754), e "MOST_INSTANCE" 757 (.int 4094 756), e "Region" 828 (r 385), e "check_region" 838 (r 396), e "same_region" 846 (r 403), e "HEAD_SIZE" 851 (.int 64 850), e "ROW_SIZE" 853 (.int 16 852), e "TREE_ROLES" 858 (r 404), e "TreeRow" 919 (r 435), e "TreeTail" 962 (r 461), e "FLAG_BITS" 973 (r 471), e "no_flags" 979 (r 476), e "row_octets" 985 (r 481), e "tail_octets" 991 (r 486), e "read_row" 997 (r 491), e "read_tree_tail" 1003 (r 496), e "cist_told" 1016 (r 503), e "cist_behind" 1026 (r 510), e "tree_behind" 1034 (r 517), e "with_teller" 1043 (r 524), e "is_from_same_port" 1051 (r 531), e "takes_over" 1059 (r 538), e "HELLOS_KEPT" 1063 (.int 3 1062), e "behind_port" 1073 (r 545), e "is_candidate" 1082 (r 552), e "own_tree_vector" 1089 (r 559), e "choose_root" 1103 (r 566), e "designated_vector" 1114 (r 573), e "role_by_vectors" 1123 (r 580), e "role_beside" 1132 (r 587), e "is_beyond" 1141 (r 594), e "choose_roles" 1152 (r 601), e "take_own" 1159 (r 608), e "life_of" 1170 (r 615), e "CHANGE_ROLES" 1176 (r 616), e "TreeTelling" 1215 (r 633), e "tail_heard" 1224 (r 644), e "cist_flags" 1231 (r 651), e "cist_telling" 1242 (r 658), e "row_telling" 1252 (r 665), e "may_agree" 1262 (r 672), e "hear_agreement" 1273 (r 679), e "keep_told" 1283 (r 686), e "hear_better" 1294 (r 693), e "hear_again" 1305 (r 700), e "hear_worse" 1315 (r 707), e "hear_tree" 1327 (r 714), e "turn_internal" 1338 (r 721), e "note_sort" 1346 (r 728), e "hear_bpdu" 1359 (r 735), e "moved_disabled" 1370 (r 742), e "sync_all" 1378 (r 749), e "are_synced" 1384 (r 754), e "agreed_onward" 1393 (r 761), e "moved_root" 1399 (r 766), e "opened" 1408 (r 773), e "moved_designated" 1421 (r 780), e "moved_blocked" 1430 (r 787), e "moved_beyond" 1440 (r 794), e "moved_port" 1449 (r 801), e "PortSide" 1503 (r 832), e "TreePort" 1583 (r 881), e "TreeSide" 1622 (r 905), e "TOLD_ROLES" 1637 (r 910), e "told_flags" 1644 (r 917), e "tree_row" 1657 (r 924), e "tree_tail" 1663 (r 929), e "made_bpdu" 1685 (r 936), e "sends_always" 1695 (r 943), e "send_waiting" 1705 (r 950), e "MOST_TURNS" 1709 (.int 400 1708), e "MOST_HOPS" 1711 (.int 20 1710), e "SPREADING_ROLES" 1715 (r 951), e "MstBridge" 1974 (r 1151), e "PortRow" 2020 (r 1180), e "_law_pool" 2033 (r 1191), e "_law_take" 2042 (r 1198), e "_law_one" 2050 (r 1205), e "_law_vectors_right" 2056 (r 1210), e "_law_heard" 2073 (r 1217), e "_law_told_right" 2079 (r 1222), e "law" 2085 (r 1227)]
noncomputable def gd (P : Params) (k : Nat) (q : Str) (t : Nat) : Obj := dk P k (e "__name__" 165 (s q t) :: (gz.take k).tail)
def o1 (P : Params) := dk P 2 [e "builtins" 162 (r 4), e "__main__" 163 (r 5)]
def o2 := (⟨.none, none, .dict ⟨[]⟩ 0, ⟨[]⟩⟩ : Obj)
def o3 (P : Params) := gd P 9 "__main__" 164
def o7 := tv []
def o8 := tr (fz.take 0)
def o13 (P : Params) := (⟨.none, none, .dict ⟨[ks P "type.__subclasses__.Exception.0" 221 (.int 38 0), ks P "type.__subclasses__.Exception.n" 222 (.int 1 0)]⟩ 2, ⟨[]⟩⟩ : Obj)
def o14 (P : Params) := gd P 15 "switchloom.bpdus" 300
def o15 := tr (fz.take 6)
def o21 := (⟨.type "builtin_function_or_method", none, .fields ⟨[.builtin "type.__prepare__", .type "type"]⟩, ⟨[]⟩⟩ : Obj)
def o36 := tv [r 38]
def o72 (P : Params) := gd P 16 "switchloom.bpdus" 300
def o73 (P : Params) := dk P 3 [e "config" 302 (.int 0 303), e "rapid" 304 (.int 2 305), e "change" 306 (.int 128 307)]
def o74 (P : Params) := gd P 38 "switchloom.bpdus" 300
def o75 := tr (fz.take 23)
def o76 := tu [("none", 312), ("alternate", 313), ("root", 314), ("designated", 315)]
def o83 := co "__init__" "Times.__init__" 337 30 5 0 0 3 107 true 181 108 .none (r 109) (r 110) (r 111) 345 30 346
def o84 := fcc 14 0 "switchloom.bpdus" 300 112
def o87 := co "told" "Times.told" 348 36 1 0 0 3 114 true 181 115 .none (r 116) (r 117) (r 118) 352 36 353
def o88 := fcc 14 1 "switchloom.bpdus" 300 119
def o94 (P : Params) := dk P 4 [e "__module__" 332 (s "switchloom.bpdus" 300), e "__firstlineno__" 336 (.int 28 335), e "__init__" 347 (r 113), e "told" 354 (r 120), e "with_age" 362 (r 127), e "__static_attributes__" 367 (r 128), e "__dict__" 369 (r 131), e "__weakref__" 371 (r 132), e "__doc__" 372 .none]
def o95 := cl "Times" [.type "object"] [r 130, .type "object"] 129 [] [none, none, some (s "Times" 325), some (s "Times" 333), some (.builtin "object.__new__"), some (.bool true)]
def o104 := tv [.none, .none, .bool false, .bool false, .bool false, .bool false, s "none" 387, .bool false, .bool false, .bytes ⟨[]⟩ 388]
def o107 := co "__init__" "Bpdu.__init__" 389 43 13 0 0 3 143 true 181 144 .none (r 145) (r 146) (r 147) 405 43 406
def o108 := fcd 15 0 142 "switchloom.bpdus" 300 148
def o111 := co "flags" "Bpdu.flags" 408 57 1 0 0 3 150 true 181 151 .none (r 152) (r 153) (r 154) 413 57 414
def o112 := fcc 15 1 "switchloom.bpdus" 300 155
def o115 := co "told" "Bpdu.told" 416 64 1 0 0 3 157 true 181 158 .none (r 159) (r 160) (r 161) 422 64 423
def o116 := fcc 15 2 "switchloom.bpdus" 300 162
def o118 (P : Params) := dk P 4 [e "__module__" 382 (s "switchloom.bpdus" 300), e "__firstlineno__" 386 (.int 41 385), e "__init__" 407 (r 149), e "flags" 415 (r 156), e "told" 424 (r 163), e "__static_attributes__" 437 (r 164), e "__dict__" 439 (r 167), e "__weakref__" 441 (r 168), e "__doc__" 442 .none]
def o119 := cl "Bpdu" [.type "object"] [r 166, .type "object"] 165 [] [none, none, some (s "Bpdu" 375), some (s "Bpdu" 383), some (.builtin "object.__new__"), some (.bool true)]
def o128 := co "number_octets" "number_octets" 451 70 2 0 0 3 178 true 181 179 .none .none .none (r 180) 454 70 455
def o129 := fm 17 "switchloom.bpdus" 300 181
def o132 := co "octets_number" "octets_number" 457 74 1 0 0 3 183 true 181 184 .none (r 185) (r 186) (r 187) 463 74 464
def o133 := fm 18 "switchloom.bpdus" 300 188
def o136 := co "bridge_octets" "bridge_octets" 466 79 1 0 0 3 190 true 181 191 .none (r 192) (r 193) (r 194) 470 79 471
def o137 := fm 19 "switchloom.bpdus" 300 195
def o140 := co "port_octets" "port_octets" 473 81 1 0 0 3 197 true 181 198 .none (r 199) (r 200) (r 201) 479 81 480
def o141 := fm 20 "switchloom.bpdus" 300 202
def o144 := co "vector_octets" "vector_octets" 482 86 1 0 0 3 204 true 181 205 .none (r 206) (r 207) (r 208) 490 86 491
def o145 := fm 21 "switchloom.bpdus" 300 209
def o148 := co "times_octets" "times_octets" 493 89 1 0 0 3 211 true 181 212 .none (r 213) (r 214) (r 215) 499 89 500
def o149 := fm 22 "switchloom.bpdus" 300 216
def o152 := co "pack_bpdu" "pack_bpdu" 502 94 1 0 0 3 218 true 181 219 .none (r 220) (r 221) (r 222) 508 94 509
def o153 := fm 23 "switchloom.bpdus" 300 223
def o156 := co "read_bridge" "read_bridge" 511 103 1 0 0 3 225 true 181 226 .none (r 227) (r 228) (r 229) 515 103 516
def o157 := fm 24 "switchloom.bpdus" 300 230
def o160 := co "read_port" "read_port" 518 105 1 0 0 3 232 true 181 233 .none (r 234) (r 235) (r 236) 523 105 524
def o161 := fm 25 "switchloom.bpdus" 300 237
def o164 := co "read_vector" "read_vector" 526 108 1 0 0 3 239 true 181 240 .none (r 241) (r 242) (r 243) 530 108 531
def o165 := fm 26 "switchloom.bpdus" 300 244
def o167 := co "read_times" "read_times" 533 110 1 0 0 3 246 true 181 247 .none .none .none (r 248) 536 110 537
def o168 := fm 27 "switchloom.bpdus" 300 249
def o171 := co "read_tail" "read_tail" 539 113 1 0 0 3 251 true 181 252 .none (r 253) (r 254) (r 255) 545 113 546
def o172 := fm 28 "switchloom.bpdus" 300 256
def o175 := co "kind_of" "kind_of" 548 119 1 0 0 3 258 true 181 259 .none (r 260) (r 261) (r 262) 553 119 554
def o176 := fm 29 "switchloom.bpdus" 300 263
def o179 := co "unpack_bpdu" "unpack_bpdu" 556 124 1 0 0 3 265 true 181 266 .none (r 267) (r 268) (r 269) 566 124 567
def o180 := fm 30 "switchloom.bpdus" 300 270
def o181 (P : Params) := gd P 52 "switchloom.regions" 732
def o182 := tr (fz.take 32)
def o215 := co "put_number" "put_number" 719 184 2 0 0 3 320 true 181 321 .none .none .none (r 322) 722 184 723
def o216 := fm 45 "switchloom.octets" 717 323
def o219 := co "put16" "put16" 725 188 1 0 0 3 325 true 181 326 .none (r 327) (r 328) (r 329) 729 188 730
def o220 := fm 46 "switchloom.octets" 717 330
def o221 (P : Params) := gd P 53 "switchloom.regions" 732
def o226 (P : Params) := gd P 70 "switchloom.mst_vectors" 847
def o227 := tr (fz.take 42)
def o232 := tv [.none]
def o235 := co "__init__" "Region.__init__" 770 197 5 0 0 3 345 true 181 346 .none (r 347) (r 348) (r 349) 778 197 779
def o236 := fcd 52 0 344 "switchloom.regions" 732 350
def o242 := co "numbers" "Region.numbers" 789 207 1 0 0 3 359 true 181 360 .none .none .none (r 361) 792 207 793
def o243 := fcc 52 2 "switchloom.regions" 732 362
def o249 := co "digest" "Region.digest" 803 213 1 0 0 3 371 true 181 372 .none .none .none (r 373) 806 213 807
def o250 := fcc 52 4 "switchloom.regions" 732 374
def o253 := co "octets" "Region.octets" 809 219 1 0 0 3 376 true 181 377 .none (r 378) (r 379) (r 380) 814 219 815
def o254 := fcc 52 5 "switchloom.regions" 732 381
def o256 (P : Params) := dk P 4 [e "__module__" 765 (s "switchloom.regions" 732), e "__firstlineno__" 769 (.int 195 768), e "__init__" 780 (r 351), e "instance_of" 788 (r 358), e "numbers" 794 (r 363), e "vlans_of" 802 (r 370), e "digest" 808 (r 375), e "octets" 816 (r 382), e "__static_attributes__" 821 (r 383), e "__dict__" 823 (r 386), e "__weakref__" 825 (r 387), e "__doc__" 826 .none]
def o257 := cl "Region" [.type "object"] [r 385, .type "object"] 384 [] [none, none, some (s "Region" 758), some (s "Region" 766), some (.builtin "object.__new__"), some (.bool true)]
def o264 := co "check_region" "check_region" 829 222 3 0 0 3 390 true 181 391 .none (r 392) (r 393) (r 394) 836 222 837
def o265 := fm 53 "switchloom.regions" 732 395
def o268 := co "same_region" "same_region" 839 230 2 0 0 3 397 true 181 398 .none (r 399) (r 400) (r 401) 844 230 845
def o269 := fm 54 "switchloom.regions" 732 402
def o270 := tu [("master", 854), ("alternate", 855), ("root", 856), ("designated", 857)]
def o277 := co "__init__" "TreeRow.__init__" 871 238 9 0 0 3 412 true 181 413 .none (r 414) (r 415) (r 416) 883 238 884
def o278 := fcc 59 0 "switchloom.mst_vectors" 847 417
def o281 := co "vector" "TreeRow.vector" 886 248 3 0 0 3 419 true 181 420 .none (r 421) (r 422) (r 423) 893 248 894
def o282 := fcc 59 1 "switchloom.mst_vectors" 847 424
def o288 (P : Params) := dk P 4 [e "__module__" 866 (s "switchloom.mst_vectors" 847), e "__firstlineno__" 870 (.int 236 869), e "__init__" 885 (r 418), e "vector" 895 (r 425), e "told" 903 (r 432), e "__static_attributes__" 912 (r 433), e "__dict__" 914 (r 436), e "__weakref__" 916 (r 437), e "__doc__" 917 .none]
def o289 := cl "TreeRow" [.type "object"] [r 435, .type "object"] 434 [] [none, none, some (s "TreeRow" 859), some (s "TreeRow" 867), some (.builtin "object.__new__"), some (.bool true)]
def o300 := co "__init__" "TreeTail.__init__" 932 257 6 0 0 3 447 true 181 448 .none (r 449) (r 450) (r 451) 941 257 942
def o301 := fcc 60 0 "switchloom.mst_vectors" 847 452
def o306 (P : Params) := dk P 4 [e "__module__" 927 (s "switchloom.mst_vectors" 847), e "__firstlineno__" 931 (.int 255 930), e "__init__" 943 (r 453), e "told" 949 (r 458), e "__static_attributes__" 955 (r 459), e "__dict__" 957 (r 462), e "__weakref__" 959 (r 463), e "__doc__" 960 .none]
def o307 := cl "TreeTail" [.type "object"] [r 461, .type "object"] 460 [] [none, none, some (s "TreeTail" 920), some (s "TreeTail" 928), some (.builtin "object.__new__"), some (.bool true)]
def o312 := tv [s "change" 963, .int 1 964]
def o313 := tv [s "proposal" 965, .int 2 966]
def o314 := tv [s "learning" 967, .int 16 968]
def o315 := tv [s "forwarding" 969, .int 32 970]
def o316 := tv [s "agreement" 971, .int 64 972]
def o317 := tv [r 466, r 467, r 468, r 469, r 470]
def o319 := co "no_flags" "no_flags" 974 267 0 0 0 3 472 true 181 473 .none .none .none (r 474) 977 267 978
def o320 := fm 62 "switchloom.mst_vectors" 847 475
def o322 := co "row_octets" "row_octets" 980 269 1 0 0 3 477 true 181 478 .none .none .none (r 479) 983 269 984
def o323 := fm 63 "switchloom.mst_vectors" 847 480
def o325 := co "tail_octets" "tail_octets" 986 275 1 0 0 3 482 true 181 483 .none .none .none (r 484) 989 275 990
def o326 := fm 64 "switchloom.mst_vectors" 847 485
def o328 := co "read_row" "read_row" 992 278 1 0 0 3 487 true 181 488 .none .none .none (r 489) 995 278 996
def o329 := fm 65 "switchloom.mst_vectors" 847 490
def o331 := co "read_tree_tail" "read_tree_tail" 998 284 1 0 0 3 492 true 181 493 .none .none .none (r 494) 1001 284 1002
def o332 := fm 66 "switchloom.mst_vectors" 847 495
def o333 (P : Params) := gd P 100 "switchloom.mst_hear" 1171
def o334 := tr (fz.take 70)
def o337 := co "cist_told" "cist_told" 1004 295 3 0 0 3 497 true 181 498 .none (r 499) (r 500) (r 501) 1014 295 1015
def o338 := fm 67 "switchloom.mst_vectors" 847 502
def o341 := co "cist_behind" "cist_behind" 1017 300 4 0 0 3 504 true 181 505 .none (r 506) (r 507) (r 508) 1024 300 1025
def o342 := fm 68 "switchloom.mst_vectors" 847 509
def o345 := co "tree_behind" "tree_behind" 1027 304 2 0 0 3 511 true 181 512 .none (r 513) (r 514) (r 515) 1032 304 1033
def o346 := fm 69 "switchloom.mst_vectors" 847 516
def o349 := co "with_teller" "with_teller" 1035 306 3 0 0 3 518 true 181 519 .none (r 520) (r 521) (r 522) 1041 306 1042
def o350 := fm 70 "switchloom.mst_vectors" 847 523
def o353 := co "is_from_same_port" "is_from_same_port" 1044 308 2 0 0 3 525 true 181 526 .none (r 527) (r 528) (r 529) 1049 308 1050
def o354 := fm 71 "switchloom.mst_vectors" 847 530
def o357 := co "takes_over" "takes_over" 1052 310 2 0 0 3 532 true 181 533 .none (r 534) (r 535) (r 536) 1057 310 1058
def o358 := fm 72 "switchloom.mst_vectors" 847 537
def o361 := co "behind_port" "behind_port" 1064 314 3 0 0 3 539 true 181 540 .none (r 541) (r 542) (r 543) 1071 314 1072
def o362 := fm 75 "switchloom.mst_roles" 1060 544
def o365 := co "is_candidate" "is_candidate" 1074 319 3 0 0 3 546 true 181 547 .none (r 548) (r 549) (r 550) 1080 319 1081
def o366 := fm 76 "switchloom.mst_roles" 1060 551
def o369 := co "own_tree_vector" "own_tree_vector" 1083 323 1 0 0 3 553 true 181 554 .none (r 555) (r 556) (r 557) 1087 323 1088
def o370 := fm 77 "switchloom.mst_roles" 1060 558
def o373 := co "choose_root" "choose_root" 1090 327 2 0 0 3 560 true 181 561 .none (r 562) (r 563) (r 564) 1101 327 1102
def o374 := fm 78 "switchloom.mst_roles" 1060 565
def o377 := co "designated_vector" "designated_vector" 1104 341 3 0 0 3 567 true 181 568 .none (r 569) (r 570) (r 571) 1112 341 1113
def o378 := fm 79 "switchloom.mst_roles" 1060 572
def o381 := co "role_by_vectors" "role_by_vectors" 1115 347 3 0 0 3 574 true 181 575 .none (r 576) (r 577) (r 578) 1121 347 1122
def o382 := fm 80 "switchloom.mst_roles" 1060 579
def o385 := co "role_beside" "role_beside" 1124 357 2 0 0 3 581 true 181 582 .none (r 583) (r 584) (r 585) 1130 357 1131
def o386 := fm 81 "switchloom.mst_roles" 1060 586
def o389 := co "is_beyond" "is_beyond" 1133 360 3 0 0 3 588 true 181 589 .none (r 590) (r 591) (r 592) 1139 360 1140
def o390 := fm 82 "switchloom.mst_roles" 1060 593
def o393 := co "choose_roles" "choose_roles" 1142 362 2 0 0 3 595 true 181 596 .none (r 597) (r 598) (r 599) 1150 362 1151
def o394 := fm 83 "switchloom.mst_roles" 1060 600
def o397 := co "take_own" "take_own" 1153 375 1 0 0 3 602 true 181 603 .none (r 604) (r 605) (r 606) 1157 375 1158
def o398 := fm 84 "switchloom.mst_roles" 1060 607
def o401 := co "life_of" "life_of" 1160 382 4 0 0 3 609 true 181 610 .none (r 611) (r 612) (r 613) 1168 382 1169
def o402 := fm 85 "switchloom.mst_roles" 1060 614
def o403 := tu [("root", 1173), ("designated", 1174), ("master", 1175)]
def o410 := co "__init__" "TreeTelling.__init__" 1189 389 7 0 0 3 624 true 181 625 .none (r 626) (r 627) (r 628) 1199 389 1200
def o411 := fcc 88 0 "switchloom.mst_hear" 1171 629
def o413 (P : Params) := dk P 4 [e "__module__" 1184 (s "switchloom.mst_hear" 1171), e "__firstlineno__" 1188 (.int 387 1187), e "__init__" 1201 (r 630), e "__static_attributes__" 1208 (r 631), e "__dict__" 1210 (r 634), e "__weakref__" 1212 (r 635), e "__doc__" 1213 .none]
def o414 := cl "TreeTelling" [.type "object"] [r 633, .type "object"] 632 [] [none, none, some (s "TreeTelling" 1177), some (s "TreeTelling" 1185), some (.builtin "object.__new__"), some (.bool true)]
def o421 := co "tail_heard" "tail_heard" 1216 396 2 0 0 3 638 true 181 639 .none (r 640) (r 641) (r 642) 1222 396 1223
def o422 := fm 89 "switchloom.mst_hear" 1171 643
def o425 := co "cist_flags" "cist_flags" 1225 404 1 0 0 3 645 true 181 646 .none (r 647) (r 648) (r 649) 1229 404 1230
def o426 := fm 90 "switchloom.mst_hear" 1171 650
def o429 := co "cist_telling" "cist_telling" 1232 406 2 0 0 3 652 true 181 653 .none (r 654) (r 655) (r 656) 1240 406 1241
def o430 := fm 91 "switchloom.mst_hear" 1171 657
def o433 := co "row_telling" "row_telling" 1243 411 3 0 0 3 659 true 181 660 .none (r 661) (r 662) (r 663) 1250 411 1251
def o434 := fm 92 "switchloom.mst_hear" 1171 664
def o441 := co "hear_agreement" "hear_agreement" 1263 418 5 0 0 3 673 true 181 674 .none (r 675) (r 676) (r 677) 1271 418 1272
def o442 := fm 94 "switchloom.mst_hear" 1171 678
def o445 := co "keep_told" "keep_told" 1274 423 4 0 0 3 680 true 181 681 .none (r 682) (r 683) (r 684) 1281 423 1282
def o446 := fm 95 "switchloom.mst_hear" 1171 685
def o449 := co "hear_better" "hear_better" 1284 428 5 0 0 3 687 true 181 688 .none (r 689) (r 690) (r 691) 1292 428 1293
def o450 := fm 96 "switchloom.mst_hear" 1171 692
def o457 := co "hear_worse" "hear_worse" 1306 442 4 0 0 3 701 true 181 702 .none (r 703) (r 704) (r 705) 1313 442 1314
def o458 := fm 98 "switchloom.mst_hear" 1171 706
def o459 (P : Params) := gd P 116 "switchloom.mst_port" 1450
def o460 := tr (fz.take 86)
def o463 := co "hear_tree" "hear_tree" 1316 447 5 0 0 3 708 true 181 709 .none (r 710) (r 711) (r 712) 1325 447 1326
def o464 := fm 99 "switchloom.mst_hear" 1171 713
def o467 := co "turn_internal" "turn_internal" 1328 460 3 0 0 3 715 true 181 716 .none (r 717) (r 718) (r 719) 1336 460 1337
def o468 := fm 100 "switchloom.mst_hear" 1171 720
def o471 := co "note_sort" "note_sort" 1339 469 2 0 0 3 722 true 181 723 .none (r 724) (r 725) (r 726) 1344 469 1345
def o472 := fm 101 "switchloom.mst_hear" 1171 727
def o475 := co "hear_bpdu" "hear_bpdu" 1347 474 3 0 0 3 729 true 181 730 .none (r 731) (r 732) (r 733) 1357 474 1358
def o476 := fm 102 "switchloom.mst_hear" 1171 734
def o479 := co "moved_disabled" "moved_disabled" 1362 494 3 0 0 3 736 true 181 737 .none (r 738) (r 739) (r 740) 1368 494 1369
def o480 := fm 104 "switchloom.mst_moves" 1360 741
def o486 := co "are_synced" "are_synced" 1379 503 2 0 0 3 750 true 181 751 .none .none .none (r 752) 1382 503 1383
def o487 := fm 106 "switchloom.mst_moves" 1360 753
def o490 := co "agreed_onward" "agreed_onward" 1385 505 3 0 0 3 755 true 181 756 .none (r 757) (r 758) (r 759) 1391 505 1392
def o491 := fm 107 "switchloom.mst_moves" 1360 760
def o493 := co "moved_root" "moved_root" 1394 521 3 0 0 3 762 true 181 763 .none .none .none (r 764) 1397 521 1398
def o494 := fm 108 "switchloom.mst_moves" 1360 765
def o497 := co "opened" "opened" 1400 542 3 0 0 3 767 true 181 768 .none (r 769) (r 770) (r 771) 1406 542 1407
def o498 := fm 109 "switchloom.mst_moves" 1360 772
def o501 := co "moved_designated" "moved_designated" 1409 551 3 0 0 3 774 true 181 775 .none (r 776) (r 777) (r 778) 1419 551 1420
def o502 := fm 110 "switchloom.mst_moves" 1360 779
def o505 := co "moved_blocked" "moved_blocked" 1422 572 3 0 0 3 781 true 181 782 .none (r 783) (r 784) (r 785) 1428 572 1429
def o506 := fm 111 "switchloom.mst_moves" 1360 786
def o509 := co "moved_beyond" "moved_beyond" 1431 584 3 0 0 3 788 true 181 789 .none (r 790) (r 791) (r 792) 1438 584 1439
def o510 := fm 112 "switchloom.mst_moves" 1360 793
def o513 := co "moved_port" "moved_port" 1441 590 3 0 0 3 795 true 181 796 .none (r 797) (r 798) (r 799) 1447 590 1448
def o514 := fm 113 "switchloom.mst_moves" 1360 800
def o521 := co "__init__" "PortSide.__init__" 1464 601 2 0 0 3 809 true 181 810 .none (r 811) (r 812) (r 813) 1469 601 1470
def o522 := fcc 115 0 "switchloom.mst_port" 1450 814
def o525 := co "port_id" "PortSide.port_id" 1472 613 1 0 0 3 816 true 181 817 .none (r 818) (r 819) (r 820) 1476 613 1477
def o526 := fcc 115 1 "switchloom.mst_port" 1450 821
def o529 := co "begin" "PortSide.begin" 1479 616 1 0 0 3 823 true 181 824 .none (r 825) (r 826) (r 827) 1483 616 1484
def o530 := fcc 115 2 "switchloom.mst_port" 1450 828
def o532 (P : Params) := dk P 4 [e "__module__" 1459 (s "switchloom.mst_port" 1450), e "__firstlineno__" 1463 (.int 599 1462), e "__init__" 1471 (r 815), e "port_id" 1478 (r 822), e "begin" 1485 (r 829), e "__static_attributes__" 1496 (r 830), e "__dict__" 1498 (r 833), e "__weakref__" 1500 (r 834), e "__doc__" 1501 .none]
def o533 := cl "PortSide" [.type "object"] [r 832, .type "object"] 831 [] [none, none, some (s "PortSide" 1452), some (s "PortSide" 1460), some (.builtin "object.__new__"), some (.bool true)]
def o544 := co "__init__" "TreePort.__init__" 1516 628 2 0 0 3 844 true 181 845 .none (r 846) (r 847) (r 848) 1521 628 1522
def o545 := fcc 116 0 "switchloom.mst_port" 1450 849
def o548 := co "clear" "TreePort.clear" 1524 633 1 0 0 3 851 true 181 852 .none (r 853) (r 854) (r 855) 1528 633 1529
def o549 := fcc 116 1 "switchloom.mst_port" 1450 856
def o556 := co "block" "TreePort.block" 1538 660 2 0 0 3 865 true 181 866 .none (r 867) (r 868) (r 869) 1543 660 1544
def o557 := fcc 116 3 "switchloom.mst_port" 1450 870
def o563 (P : Params) := dk P 4 [e "__module__" 1511 (s "switchloom.mst_port" 1450), e "__firstlineno__" 1515 (.int 626 1514), e "__init__" 1523 (r 850), e "clear" 1530 (r 857), e "state" 1537 (r 864), e "block" 1545 (r 871), e "told" 1553 (r 878), e "__static_attributes__" 1576 (r 879), e "__dict__" 1578 (r 882), e "__weakref__" 1580 (r 883), e "__doc__" 1581 .none]
def o564 := cl "TreePort" [.type "object"] [r 881, .type "object"] 880 [] [none, none, some (s "TreePort" 1504), some (s "TreePort" 1512), some (.builtin "object.__new__"), some (.bool true)]
def o569 (P : Params) := gd P 117 "switchloom.mst_send" 1623
def o570 := tr (fz.take 87)
def o576 := co "__init__" "TreeSide.__init__" 1596 670 4 0 0 3 893 true 181 894 .none .none .none (r 895) 1599 670 1600
def o577 := fcc 117 0 "switchloom.mst_port" 1450 896
def o579 := co "others" "TreeSide.others" 1602 679 2 0 0 3 898 true 181 899 .none .none .none (r 900) 1605 679 1606
def o580 := fcc 117 1 "switchloom.mst_port" 1450 901
def o582 (P : Params) := dk P 4 [e "__module__" 1591 (s "switchloom.mst_port" 1450), e "__firstlineno__" 1595 (.int 668 1594), e "__init__" 1601 (r 897), e "others" 1607 (r 902), e "__static_attributes__" 1615 (r 903), e "__dict__" 1617 (r 906), e "__weakref__" 1619 (r 907), e "__doc__" 1620 .none]
def o583 := cl "TreeSide" [.type "object"] [r 905, .type "object"] 904 [] [none, none, some (s "TreeSide" 1584), some (s "TreeSide" 1592), some (.builtin "object.__new__"), some (.bool true)]
def o588 (P : Params) := gd P 118 "switchloom.mst_send" 1623
def o589 (P : Params) := dk P 4 [e "root" 1625 (s "root" 1626), e "alternate" 1627 (s "alternate" 1628), e "backup" 1629 (s "alternate" 1630), e "designated" 1631 (s "designated" 1632)]
def o590 (P : Params) := gd P 127 "switchloom.mst" 1706
def o591 := tr (fz.take 93)
def o594 := co "told_flags" "told_flags" 1638 683 1 0 0 3 911 true 181 912 .none (r 913) (r 914) (r 915) 1642 683 1643
def o595 := fm 120 "switchloom.mst_send" 1623 916
def o598 := co "tree_row" "tree_row" 1645 685 3 0 0 3 918 true 181 919 .none (r 920) (r 921) (r 922) 1655 685 1656
def o599 := fm 121 "switchloom.mst_send" 1623 923
def o601 := co "tree_tail" "tree_tail" 1658 690 2 0 0 3 925 true 181 926 .none .none .none (r 927) 1661 690 1662
def o602 := fm 122 "switchloom.mst_send" 1623 928
def o605 := co "made_bpdu" "made_bpdu" 1664 694 2 0 0 3 930 true 181 931 .none (r 932) (r 933) (r 934) 1683 694 1684
def o606 := fm 123 "switchloom.mst_send" 1623 935
def o613 := co "send_waiting" "send_waiting" 1696 712 1 0 0 3 944 true 181 945 .none (r 946) (r 947) (r 948) 1703 712 1704
def o614 := fm 125 "switchloom.mst_send" 1623 949
def o615 := tu [("root", 1712), ("designated", 1713), ("master", 1714)]
def o616 (P : Params) := gd P 128 "switchloom.mst" 1706
def o617 := tr (fz.take 94)
def o622 := tv [.int 6 1728, .none, .int 20 1710]
def o624 := co "__init__" "MstBridge.__init__" 1729 728 8 0 0 3 960 true 181 961 .none .none .none (r 962) 1732 728 1733
def o625 := fcd 130 0 959 "switchloom.mst" 1706 963
def o628 := co "numbers" "MstBridge.numbers" 1735 746 1 0 0 3 965 true 181 966 .none (r 967) (r 968) (r 969) 1739 746 1740
def o629 := fcc 130 1 "switchloom.mst" 1706 970
def o632 := co "side" "MstBridge.side" 1742 749 2 0 0 3 972 true 181 973 .none (r 974) (r 975) (r 976) 1747 749 1748
def o633 := fcc 130 2 "switchloom.mst" 1706 977
def o636 := co "delay" "MstBridge.delay" 1750 752 1 0 0 3 979 true 181 980 .none (r 981) (r 982) (r 983) 1754 752 1755
def o637 := fcc 130 3 "switchloom.mst" 1706 984
def o639 := co "instance_trees" "MstBridge.instance_trees" 1757 755 1 0 0 3 986 true 181 987 .none .none .none (r 988) 1760 755 1761
def o640 := fcc 130 4 "switchloom.mst" 1706 989
def o643 := co "all_trees" "MstBridge.all_trees" 1763 758 1 0 0 3 991 true 181 992 .none (r 993) (r 994) (r 995) 1767 758 1768
def o644 := fcc 130 5 "switchloom.mst" 1706 996
def o647 := co "want_to_send" "MstBridge.want_to_send" 1770 761 2 0 0 3 998 true 181 999 .none (r 1000) (r 1001) (r 1002) 1775 761 1776
def o648 := fcc 130 6 "switchloom.mst" 1706 1003
def o679 := co "link_up" "MstBridge.link_up" 1832 782 2 0 0 3 1051 true 181 1052 .none (r 1053) (r 1054) (r 1055) 1838 782 1839
def o680 := fcc 130 13 "switchloom.mst" 1706 1056
def o687 := co "receive" "MstBridge.receive" 1849 793 3 0 0 3 1065 true 181 1066 .none (r 1067) (r 1068) (r 1069) 1855 793 1856
def o688 := fcc 130 15 "switchloom.mst" 1706 1070
def o703 := co "settle" "MstBridge.settle" 1885 824 1 0 0 3 1093 true 181 1094 .none (r 1095) (r 1096) (r 1097) 1890 824 1891
def o704 := fcc 130 19 "switchloom.mst" 1706 1098
def o707 := co "step" "MstBridge.step" 1893 831 1 0 0 3 1100 true 181 1101 .none (r 1102) (r 1103) (r 1104) 1901 831 1902
def o708 := fcc 130 20 "switchloom.mst" 1706 1105
def o715 := co "are_instances_synced" "MstBridge.are_instances_synced" 1914 851 3 0 0 3 1114 true 181 1115 .none (r 1116) (r 1117) (r 1118) 1922 851 1923
def o716 := fcc 130 22 "switchloom.mst" 1706 1119
def o719 := co "tell_change" "MstBridge.tell_change" 1925 860 3 0 0 3 1121 true 181 1122 .none (r 1123) (r 1124) (r 1125) 1931 860 1932
def o720 := fcc 130 23 "switchloom.mst" 1706 1126
def o723 := co "spread_change" "MstBridge.spread_change" 1934 866 3 0 0 3 1128 true 181 1129 .none (r 1130) (r 1131) (r 1132) 1941 866 1942
def o724 := fcc 130 24 "switchloom.mst" 1706 1133
def o734 (P : Params) := dk P 4 [e "__module__" 1723 (s "switchloom.mst" 1706), e "__firstlineno__" 1727 (.int 726 1726), e "__init__" 1734 (r 964), e "numbers" 1741 (r 971), e "side" 1749 (r 978), e "delay" 1756 (r 985), e "instance_trees" 1762 (r 990), e "all_trees" 1769 (r 997), e "want_to_send" 1777 (r 1004), e "role" 1787 (r 1012), e "state" 1797 (r 1020), e "state_of_vlan" 1806 (r 1027), e "root" 1815 (r 1035), e "regional_root" 1822 (r 1042), e "root_port" 1831 (r 1050), e "link_up" 1840 (r 1057), e "link_down" 1848 (r 1064), e "receive" 1857 (r 1071), e "second" 1865 (r 1078), e "second_of" 1875 (r 1085), e "second_in" 1884 (r 1092), e "settle" 1892 (r 1099), e "step" 1903 (r 1106), e "sync_instances" 1913 (r 1113), e "are_instances_synced" 1924 (r 1120), e "tell_change" 1933 (r 1127), e "spread_change" 1943 (r 1134), e "take_flushed" 1950 (r 1141), e "take_sent" 1957 (r 1148), e "__static_attributes__" 1967 (r 1149), e "__dict__" 1969 (r 1152), e "__weakref__" 1971 (r 1153), e "__doc__" 1972 .none]
def o735 := cl "MstBridge" [.type "object"] [r 1151, .type "object"] 1150 [] [none, none, some (s "MstBridge" 1716), some (s "MstBridge" 1724), some (.builtin "object.__new__"), some (.bool true)]
def o740 (P : Params) := dk P 136 gz
def o746 := tv [.bool false, .bool true]
def o749 := co "__init__" "PortRow.__init__" 1989 881 6 0 0 3 1164 true 181 1165 .none (r 1166) (r 1167) (r 1168) 1998 881 1999
def o750 := fcd 132 0 1163 "switchloom.rapid_port" 1975 1169
def o756 (P : Params) := dk P 4 [e "__module__" 1984 (s "switchloom.rapid_port" 1975), e "__firstlineno__" 1988 (.int 879 1987), e "__init__" 2000 (r 1170), e "port_id" 2007 (r 1177), e "__static_attributes__" 2013 (r 1178), e "__dict__" 2015 (r 1181), e "__weakref__" 2017 (r 1182), e "__doc__" 2018 .none]
def o757 := cl "PortRow" [.type "object"] [r 1180, .type "object"] 1179 [] [none, none, some (s "PortRow" 1977), some (s "PortRow" 1985), some (.builtin "object.__new__"), some (.bool true)]
def o764 := co "_law_pool" "_law_pool" 2023 891 2 0 0 3 1185 true 181 1186 .none (r 1187) (r 1188) (r 1189) 2031 891 2032
def o765 := fm 134 "law_pc0388_01" 2021 1190
def o768 := co "_law_take" "_law_take" 2034 896 2 0 0 3 1192 true 181 1193 .none (r 1194) (r 1195) (r 1196) 2040 896 2041
def o769 := fm 135 "law_pc0388_01" 2021 1197
def o772 := co "_law_one" "_law_one" 2043 905 2 0 0 3 1199 true 181 1200 .none (r 1201) (r 1202) (r 1203) 2048 905 2049
def o773 := fm 136 "law_pc0388_01" 2021 1204
def o775 := co "_law_vectors_right" "_law_vectors_right" 2051 907 1 0 0 3 1206 true 181 1207 .none .none .none (r 1208) 2054 907 2055
def o776 := fm 137 "law_pc0388_01" 2021 1209
def o779 := co "_law_heard" "_law_heard" 2057 927 4 0 0 3 1211 true 181 1212 .none (r 1213) (r 1214) (r 1215) 2071 927 2072
def o780 := fm 138 "law_pc0388_01" 2021 1216
def o782 := co "_law_told_right" "_law_told_right" 2074 938 5 0 0 3 1218 true 181 1219 .none .none .none (r 1220) 2077 938 2078
def o783 := fm 139 "law_pc0388_01" 2021 1221
def o785 := co "law" "law" 2080 960 1 0 0 3 1223 true 181 1224 .none .none .none (r 1225) 2083 960 2084
def o786 := fm 140 "law_pc0388_01" 2021 1226
def lz (P : Params) : List Obj := [dk P 159 [e "__name__" 1 (s "builtins" 160), e "__doc__" 2 (.builtin "builtins.__doc__:str#opaque"), e "__package__" 3 (.builtin "builtins.__package__:str#opaque"), e "__loader__" 4 (.builtin "builtins.__loader__:shared#opaque"), e "__spec__" 5 (.builtin "builtins.__spec__#opaque"), e "__build_class__" 6 (.builtin "__build_class__"), e "__import__" 7 (.builtin "__import__"), e "abs" 8 (.builtin "abs"), e "all" 9 (.builtin "all"), e "any" 10 (.builtin "any"), e "ascii" 11 (.builtin "ascii"), e "bin" 12 (.builtin "bin"), e "breakpoint" 13 (.builtin "breakpoint"), e "callable" 14 (.builtin "callable"), e "chr" 15 (.builtin "chr"), e "compile" 16 (.builtin "compile"), e "delattr" 17 (.builtin "delattr"), e "dir" 18 (.builtin "dir"), e "divmod" 19 (.builtin "divmod"), e "eval" 20 (.builtin "eval"), e "exec" 21 (.builtin "exec"), e "format" 22 (.builtin "format"), e "getattr" 23 (.builtin "getattr"), e "globals" 24 (.builtin "globals"), e "hasattr" 25 (.builtin "hasattr"), e "hash" 26 (.builtin "hash"), e "hex" 27 (.builtin "hex"), e "id" 28 (.builtin "id"), e "input" 29 (.builtin "input"), e "isinstance" 30 (.builtin "isinstance"), e "issubclass" 31 (.builtin "issubclass"), e "iter" 32 (.builtin "iter"), e "aiter" 33 (.builtin "aiter"), e "len" 34 (.builtin "len"), e "locals" 35 (.builtin "locals"), e "max" 36 (.builtin "max"), e "min" 37 (.builtin "min"), e "next" 38 (.builtin "next"), e "anext" 39 (.builtin "anext"), e "oct" 40 (.builtin "oct"), e "ord" 41 (.builtin "ord"), e "pow" 42 (.builtin "pow"), e "print" 43 (.builtin "print"), e "repr" 44 (.builtin "repr"), e "round" 45 (.builtin "round"), e "setattr" 46 (.builtin "setattr"), e "sorted" 47 (.builtin "sorted"), e "sum" 48 (.builtin "sum"), e "vars" 49 (.builtin "vars"), e "None" 50 .none, e "Ellipsis" 51 .ellipsis, e "NotImplemented" 52 .notImplemented, e "False" 53 (.bool false), e "True" 54 (.bool true), e "bool" 55 (.type "bool"), e "memoryview" 56 (.type "memoryview"), e "bytearray" 57 (.type "bytearray"), e "bytes" 58 (.type "bytes"), e "classmethod" 59 (.type "classmethod"), e "complex" 60 (.type "complex"), e "dict" 61 (.type "dict"), e "enumerate" 62 (.type "enumerate"), e "filter" 63 (.type "filter"), e "float" 64 (.type "float"), e "frozenset" 65 (.type "frozenset"), e "property" 66 (.type "property"), e "int" 67 (.type "int"), e "list" 68 (.type "list"), e "map" 69 (.type "map"), e "object" 70 (.type "object"), e "range" 71 (.type "range"), e "reversed" 72 (.type "reversed"), e "set" 73 (.type "set"), e "slice" 74 (.type "slice"), e "staticmethod" 75 (.type "staticmethod"), e "str" 76 (.type "str"), e "super" 77 (.type "super"), e "tuple" 78 (.type "tuple"), e "type" 79 (.type "type"), e "zip" 80 (.type "zip"), e "__debug__" 81 (.bool true), e "BaseException" 82 (.type "BaseException"), e "BaseExceptionGroup" 83 (.type "BaseExceptionGroup"), e "Exception" 84 (.type "Exception"), e "GeneratorExit" 85 (.type "GeneratorExit"), e "KeyboardInterrupt" 86 (.type "KeyboardInterrupt"), e "SystemExit" 87 (.type "SystemExit"), e "ArithmeticError" 88 (.type "ArithmeticError"), e "AssertionError" 89 (.type "AssertionError"), e "AttributeError" 90 (.type "AttributeError"), e "BufferError" 91 (.type "BufferError"), e "EOFError" 92 (.type "EOFError"), e "ImportError" 93 (.type "ImportError"), e "LookupError" 94 (.type "LookupError"), e "MemoryError" 95 (.type "MemoryError"), e "NameError" 96 (.type "NameError"), e "OSError" 97 (.type "OSError"), e "ReferenceError" 98 (.type "ReferenceError"), e "RuntimeError" 99 (.type "RuntimeError"), e "StopAsyncIteration" 100 (.type "StopAsyncIteration"), e "StopIteration" 101 (.type "StopIteration"), e "SyntaxError" 102 (.type "SyntaxError"), e "SystemError" 103 (.type "SystemError"), e "TypeError" 104 (.type "TypeError"), e "ValueError" 105 (.type "ValueError"), e "Warning" 106 (.type "Warning"), e "FloatingPointError" 107 (.type "FloatingPointError"), e "OverflowError" 108 (.type "OverflowError"), e "ZeroDivisionError" 109 (.type "ZeroDivisionError"), e "BytesWarning" 110 (.type "BytesWarning"), e "DeprecationWarning" 111 (.type "DeprecationWarning"), e "EncodingWarning" 112 (.type "EncodingWarning"), e "FutureWarning" 113 (.type "FutureWarning"), e "ImportWarning" 114 (.type "ImportWarning"), e "PendingDeprecationWarning" 115 (.type "PendingDeprecationWarning"), e "ResourceWarning" 116 (.type "ResourceWarning"), e "RuntimeWarning" 117 (.type "RuntimeWarning"), e "SyntaxWarning" 118 (.type "SyntaxWarning"), e "UnicodeWarning" 119 (.type "UnicodeWarning"), e "UserWarning" 120 (.type "UserWarning"), e "BlockingIOError" 121 (.type "BlockingIOError"), e "ChildProcessError" 122 (.type "ChildProcessError"), e "ConnectionError" 123 (.type "ConnectionError"), e "FileExistsError" 124 (.type "FileExistsError"), e "FileNotFoundError" 125 (.type "FileNotFoundError"), e "InterruptedError" 126 (.type "InterruptedError"), e "IsADirectoryError" 127 (.type "IsADirectoryError"), e "NotADirectoryError" 128 (.type "NotADirectoryError"), e "PermissionError" 129 (.type "PermissionError"), e "ProcessLookupError" 130 (.type "ProcessLookupError"), e "TimeoutError" 131 (.type "TimeoutError"), e "IndentationError" 132 (.type "IndentationError"), e "_IncompleteInputError" 133 (.type "_IncompleteInputError"), e "IndexError" 134 (.type "IndexError"), e "KeyError" 135 (.type "KeyError"), e "ModuleNotFoundError" 136 (.type "ModuleNotFoundError"), e "NotImplementedError" 137 (.type "NotImplementedError"), e "PythonFinalizationError" 138 (.type "PythonFinalizationError"), e "RecursionError" 139 (.type "RecursionError"), e "UnboundLocalError" 140 (.type "UnboundLocalError"), e "UnicodeError" 141 (.type "UnicodeError"), e "BrokenPipeError" 142 (.type "BrokenPipeError"), e "ConnectionAbortedError" 143 (.type "ConnectionAbortedError"), e "ConnectionRefusedError" 144 (.type "ConnectionRefusedError"), e "ConnectionResetError" 145 (.type "ConnectionResetError"), e "TabError" 146 (.type "TabError"), e "UnicodeDecodeError" 147 (.type "UnicodeDecodeError"), e "UnicodeEncodeError" 148 (.type "UnicodeEncodeError"), e "UnicodeTranslateError" 149 (.type "UnicodeTranslateError"), e "ExceptionGroup" 150 (.type "ExceptionGroup"), e "EnvironmentError" 151 (.type "OSError"), e "IOError" 152 (.type "OSError"), e "open" 153 (.builtin "open"), e "quit" 154 (.builtin "builtins.quit#opaque"), e "exit" 155 (.builtin "builtins.exit#opaque"), e "copyright" 156 (.builtin "builtins.copyright#opaque"), e "credits" 157 (.builtin "builtins.credits#opaque"), e "license" 158 (.builtin "builtins.license#opaque"), e "help" 159 (.builtin "builtins.help#opaque")], o1 P, o13 P, o740 P, (⟨.type "module", (some 0), .plain, ⟨[]⟩⟩ : Obj), (⟨.type "module", (some 3), .plain, ⟨[]⟩⟩ : Obj), dk P 0 [], o7, o8, co "<module>" "<module>" 176 1 0 0 0 0 7 false 175 8 .none .none .none .none 179 1 180, fr 9 3 3 "__main__" 164 0, o7, tr fz, co "<module>" "<module>" 182 1 0 0 0 0 11 false 181 12 .none .none .none .none 185 1 186, fr 13 3 3 "__main__" 164 0, o7, o8, tu [("k", 190)], o7, gm 0, co "_wall" "_wall" 187 1 1 0 0 3 15 true 181 16 .none (r 17) (r 18) (r 19) 191 1 192, fm 0 "__main__" 164 20, tv [.type "Exception"], o21, dk P 5 [e "__module__" 203 (s "switchloom.errors" 194), e "__qualname__" 205 (s "SwitchError" 204), e "__firstlineno__" 207 (.int 5 206), e "__init__" 215 (r 35), e "__static_attributes__" 217 (r 36)], o7, tr [(7, 4, 34)], co "SwitchError" "SwitchError" 198 5 0 0 0 0 25 false 181 26 .none .none .none .none 201 5 202, fr 27 3 24 "switchloom.errors" 194 0, o7, o8, tu [("self", 211), ("message", 212)], o7, gc 2 0, co "__init__" "SwitchError.__init__" 208 7 2 0 0 3 29 true 181 30 .none (r 31) (r 32) (r 33) 213 7 214, fcc 2 0 "switchloom.errors" 194 34, tu [("message", 216)], dk P 3 [e "__module__" 203 (s "switchloom.errors" 194), e "__firstlineno__" 207 (.int 5 206), e "__init__" 215 (r 35), e "__static_attributes__" 217 (r 36), e "__weakref__" 219 (r 39), e "__doc__" 220 .none], cl "SwitchError" [.type "Exception"] [r 38, .type "Exception", .type "BaseException", .type "object"] 37 [r 51, r 63, r 75, r 95] [some (r 22), none, some (s "SwitchError" 196), some (s "SwitchError" 204), some (.builtin "Exception.__new__"), some (.bool true)], gs "__weakref__" 218 38 "ExceptionGroup.__weakref__" (.none), su 38 38 38, bf "object.__init_subclass__" 38, o36, o21, dk P 4 [e "__module__" 232 (s "switchloom.errors" 194), e "__qualname__" 234 (s "FormError" 233), e "__firstlineno__" 236 (.int 10 235), e "__static_attributes__" 237 (r 49)], o7, o8, co "FormError" "FormError" 227 10 0 0 0 0 45 false 181 46 .none .none .none .none 230 10 231, fr 47 3 44 "switchloom.errors" 194 0, o7, dk P 2 [e "__module__" 232 (s "switchloom.errors" 194), e "__firstlineno__" 236 (.int 10 235), e "__static_attributes__" 237 (r 49), e "__doc__" 238 .none], cl "FormError" [r 38] [r 51, r 38, .type "Exception", .type "BaseException", .type "object"] 50 [] [some (r 42), none, some (s "FormError" 225), some (s "FormError" 233), some (.builtin "Exception.__new__"), some (.bool true)], su 51 51 51, bf "object.__init_subclass__" 51, o36, o21, dk P 4 [e "__module__" 248 (s "switchloom.errors" 194), e "__qualname__" 250 (s "SizeError" 249), e "__firstlineno__" 252 (.int 12 251), e "__static_attributes__" 253 (r 61)], o7, o8, co "SizeError" "SizeError" 243 12 0 0 0 0 57 false 181 58 .none .none .none .none 246 12 247, fr 59 3 56 "switchloom.errors" 194 0, o7, dk P 2 [e "__module__" 248 (s "switchloom.errors" 194), e "__firstlineno__" 252 (.int 12 251), e "__static_attributes__" 253 (r 61), e "__doc__" 254 .none], cl "SizeError" [r 38] [r 63, r 38, .type "Exception", .type "BaseException", .type "object"] 62 [] [some (r 54), none, some (s "SizeError" 241), some (s "SizeError" 249), some (.builtin "Exception.__new__"), some (.bool true)], su 63 63 63, bf "object.__init_subclass__" 63, o36, o21, dk P 4 [e "__module__" 264 (s "switchloom.errors" 194), e "__qualname__" 266 (s "StateError" 265), e "__firstlineno__" 268 (.int 14 267), e "__static_attributes__" 269 (r 73)], o7, o8, co "StateError" "StateError" 259 14 0 0 0 0 69 false 181 70 .none .none .none .none 262 14 263, fr 71 3 68 "switchloom.errors" 194 0, o7, dk P 2 [e "__module__" 264 (s "switchloom.errors" 194), e "__firstlineno__" 268 (.int 14 267), e "__static_attributes__" 269 (r 73), e "__doc__" 270 .none], cl "StateError" [r 38] [r 75, r 38, .type "Exception", .type "BaseException", .type "object"] 74 [] [some (r 66), none, some (s "StateError" 257), some (s "StateError" 265), some (.builtin "Exception.__new__"), some (.bool true)], su 75 75 75, bf "object.__init_subclass__" 75, o36, o21, dk P 5 [e "__module__" 280 (s "switchloom.errors" 194), e "__qualname__" 282 (s "SettingError" 281), e "__firstlineno__" 284 (.int 16 283), e "__init__" 294 (r 92), e "__static_attributes__" 296 (r 93)], o7, tr [(18, 4, 91)], co "SettingError" "SettingError" 275 16 0 0 0 0 81 false 181 82 .none .none .none .none 278 16 279, fr 83 3 80 "switchloom.errors" 194 0, tv [.int 0 285], o7, o8, tu [("self", 289), ("message", 290), ("row", 291)], o7, gc 6 0, co "__init__" "SettingError.__init__" 286 18 3 0 0 3 86 true 181 87 .none (r 88) (r 89) (r 90) 292 18 293, fcd 6 0 85 "switchloom.errors" 194 91, tu [("row", 295)], dk P 2 [e "__module__" 280 (s "switchloom.errors" 194), e "__firstlineno__" 284 (.int 16 283), e "__init__" 294 (r 92), e "__static_attributes__" 296 (r 93), e "__doc__" 297 .none], cl "SettingError" [r 38] [r 95, r 38, .type "Exception", .type "BaseException", .type "object"] 94 [] [some (r 78), none, some (s "SettingError" 273), some (s "SettingError" 281), some (.builtin "Exception.__new__"), some (.bool true)], su 95 95 95, bf "object.__init_subclass__" 95, o73 P, o76, o7, o21, dk P 7 [e "__module__" 332 (s "switchloom.bpdus" 300), e "__qualname__" 334 (s "Times" 333), e "__firstlineno__" 336 (.int 28 335), e "__init__" 347 (r 113), e "told" 354 (r 120), e "with_age" 362 (r 127), e "__static_attributes__" 367 (r 128)], o7, tr [(30, 4, 112), (36, 4, 119), (39, 4, 126)], co "Times" "Times" 327 28 0 0 0 0 103 false 181 104 .none .none .none .none 330 28 331, fr 105 3 102 "switchloom.bpdus" 300 0, o7, o8, tu [("self", 340), ("age", 341), ("max_age", 342), ("hello", 343), ("delay", 344)], o7, gc 14 0, o83, o84, o7, o8, tu [("self", 351)], o7, gc 14 1, o87, o88, o7, o8, tu [("self", 358), ("age", 359)], o7, gc 14 2, co "with_age" "Times.with_age" 355 39 2 0 0 3 121 true 181 122 .none (r 123) (r 124) (r 125) 360 39 361, fcc 14 2 "switchloom.bpdus" 300 126, tu [("age", 363), ("delay", 364), ("hello", 365), ("max_age", 366)], o94 P, o95, gs "__dict__" 368 130 "function.__dict__" (.builtin "function.__dict__#set"), gs "__weakref__" 370 130 "ExceptionGroup.__weakref__" (.none), su 130 130 130, bf "object.__init_subclass__" 130, o7, o21, dk P 7 [e "__module__" 382 (s "switchloom.bpdus" 300), e "__qualname__" 384 (s "Bpdu" 383), e "__firstlineno__" 386 (.int 41 385), e "__init__" 407 (r 149), e "flags" 415 (r 156), e "told" 424 (r 163), e "__static_attributes__" 437 (r 164)], o7, tr [(43, 4, 148), (57, 4, 155), (64, 4, 162)], co "Bpdu" "Bpdu" 377 41 0 0 0 0 138 false 181 139 .none .none .none .none 380 41 381, fr 140 3 137 "switchloom.bpdus" 300 0, o104, o7, o8, tu [("self", 392), ("version", 393), ("kind", 394), ("vector", 395), ("times", 396), ("is_change", 397), ("is_change_ack", 398), ("is_proposal", 399), ("is_agreement", 400), ("role", 401), ("is_learning", 402), ("is_forwarding", 403), ("tail", 404)], o7, gc 15 0, o107, o108, o7, o8, tu [("self", 411), ("found", 412)], o7, gc 15 1, o111, o112, o7, o8, tu [("self", 419), ("times", 420), ("head", 421)], o7, gc 15 2, o115, o116, tu [("is_agreement", 425), ("is_change", 426), ("is_change_ack", 427), ("is_forwarding", 428), ("is_learning", 429), ("is_proposal", 430), ("kind", 431), ("role", 432), ("tail", 433), ("times", 434), ("vector", 435), ("version", 436)], o118 P, o119, gs "__dict__" 438 166 "function.__dict__" (.builtin "function.__dict__#set"), gs "__weakref__" 440 166 "ExceptionGroup.__weakref__" (.none), su 166 166 166, bf "object.__init_subclass__" 166, o7, o8, o7, o7, gm 16, co "changed_notice" "changed_notice" 445 68 0 0 0 3 171 true 181 172 .none (r 173) (r 174) (r 175) 448 68 449, fm 16 "switchloom.bpdus" 300 176, o7, o8, gm 17, o128, o129, o7, o8, tu [("octets", 460), ("found", 461), ("octet", 462)], o7, gm 18, o132, o133, o7, o8, tu [("bridge", 469)], o7, gm 19, o136, o137, o7, o8, tu [("port_id", 476), ("priority", 477), ("number", 478)], o7, gm 20, o140, o141, o7, o8, tu [("vector", 485), ("root", 486), ("cost", 487), ("bridge", 488), ("port_id", 489)], o7, gm 21, o144, o145, o7, o8, tu [("times", 496), ("found", 497), ("worth", 498)], o7, gm 22, o148, o149, o7, o8, tu [("bpdu", 505), ("head", 506), ("found", 507)], o7, gm 23, o152, o153, o7, o8, tu [("octets", 514)], o7, gm 24, o156, o157, o7, o8, tu [("octets", 521), ("worth", 522)], o7, gm 25, o160, o161, o7, o8, tu [("octets", 529)], o7, gm 26, o164, o165, o7, o8, gm 27, o167, o168, o7, o8, tu [("octets", 542), ("size", 543), ("found", 544)], o7, gm 28, o171, o172, o7, o8, tu [("code", 551), ("kind", 552)], o7, gm 29, o175, o176, o7, o8, tu [("octets", 559), ("kind", 560), ("version", 561), ("flags", 562), ("vector", 563), ("times", 564), ("tail", 565)], o7, gm 30, o179, o180, tv [.int 1732584193 575, .int 4023233417 576, .int 2562383102 577, .int 271733878 578], tv [.int 7 580, .int 12 581, .int 17 582, .int 22 583], tv [.int 5 584, .int 9 585, .int 14 586, .int 20 587], tv [.int 4 588, .int 11 589, .int 16 590, .int 23 591], tv [.int 6 592, .int 10 593, .int 15 594, .int 21 595], tv [r 273, r 274, r 275, r 276], tv [.int 3614090360 597, .int 3905402710 598, .int 606105819 599, .int 3250441966 600, .int 4118548399 601, .int 1200080426 602, .int 2821735955 603, .int 4249261313 604, .int 1770035416 605, .int 2336552879 606, .int 4294925233 607, .int 2304563134 608, .int 1804603682 609, .int 4254626195 610, .int 2792965006 611, .int 1236535329 612, .int 4129170786 613, .int 3225465664 614, .int 643717713 615, .int 3921069994 616, .int 3593408605 617, .int 38016083 618, .int 3634488961 619, .int 3889429448 620, .int 568446438 621, .int 3275163606 622, .int 4107603335 623, .int 1163531501 624, .int 2850285829 625, .int 4243563512 626, .int 1735328473 627, .int 2368359562 628, .int 4294588738 629, .int 2272392833 630, .int 1839030562 631, .int 4259657740 632, .int 2763975236 633, .int 1272893353 634, .int 4139469664 635, .int 3200236656 636, .int 681279174 637, .int 3936430074 638, .int 3572445317 639, .int 76029189 640, .int 3654602809 641, .int 3873151461 642, .int 530742520 643, .int 3299628645 644, .int 4096336452 645, .int 1126891415 646, .int 2878612391 647, .int 4237533241 648, .int 1700485571 649, .int 2399980690 650, .int 4293915773 651, .int 2240044497 652, .int 1873313359 653, .int 4264355552 654, .int 2734768916 655, .int 1309151649 656, .int 4149444226 657, .int 3174756917 658, .int 718787259 659, .int 3951481745 660], o7, o8, tu [("number", 665), ("places", 666)], o7, gm 37, co "turned_left" "turned_left" 662 145 2 0 0 3 279 true 181 280 .none (r 281) (r 282) (r 283) 667 145 668, fm 37 "switchloom.md5" 569 284, o7, o8, gm 38, co "filled_octets" "filled_octets" 670 147 1 0 0 3 286 true 181 287 .none .none .none (r 288) 673 147 674, fm 38 "switchloom.md5" 569 289, o7, o8, tu [("block", 679), ("found", 680), ("place", 681), ("a", 682), ("b", 683), ("c", 684), ("d", 685)], o7, gm 39, co "block_words" "block_words" 676 151 1 0 0 3 291 true 181 292 .none (r 293) (r 294) (r 295) 686 151 687, fm 39 "switchloom.md5" 569 296, o7, o8, tu [("step", 692), ("b", 693), ("c", 694), ("d", 695)], o7, gm 40, co "step_parts" "step_parts" 689 157 4 0 0 3 298 true 181 299 .none (r 300) (r 301) (r 302) 696 157 697, fm 40 "switchloom.md5" 569 303, o7, o8, gm 41, co "block_digest" "block_digest" 699 165 2 0 0 3 305 true 181 306 .none .none .none (r 307) 702 165 703, fm 41 "switchloom.md5" 569 308, o7, o8, gm 42, co "md5_digest" "md5_digest" 705 173 1 0 0 3 310 true 181 311 .none .none .none (r 312) 708 173 709, fm 42 "switchloom.md5" 569 313, o7, o8, gm 43, co "md5_with_key" "md5_with_key" 711 178 2 0 0 3 315 true 181 316 .none .none .none (r 317) 714 178 715, fm 43 "switchloom.md5" 569 318, o7, o8, gm 45, o215, o216, o7, o8, tu [("number", 728)], o7, gm 46, o219, o220, (⟨.type "list", none, .seq ⟨[.int 19 734, .int 172 735, .int 6 736, .int 166 737, .int 46 738, .int 71 739, .int 253 740, .int 81 741, .int 249 742, .int 93 743, .int 43 744, .int 162 745, .int 67 746, .int 205 747, .int 3 748, .int 70 749]⟩ 0, ⟨[]⟩⟩ : Obj), (⟨.type "list_iterator", none, .fields ⟨[.none, .int 16 0]⟩, ⟨[]⟩⟩ : Obj), (⟨.type "bytearray", none, .bytearray ⟨[19, 172, 6, 166, 46, 71, 253, 81, 249, 93, 43, 162, 67, 205, 3, 70]⟩ 0, ⟨[]⟩⟩ : Obj), o7, (⟨.type "StopIteration", none, .fields ⟨[r 335, .none, .none, .none, .bool false, .none]⟩, ⟨[]⟩⟩ : Obj), o7, o21, dk P 10 [e "__module__" 765 (s "switchloom.regions" 732), e "__qualname__" 767 (s "Region" 766), e "__firstlineno__" 769 (.int 195 768), e "__init__" 780 (r 351), e "instance_of" 788 (r 358), e "numbers" 794 (r 363), e "vlans_of" 802 (r 370), e "digest" 808 (r 375), e "octets" 816 (r 382), e "__static_attributes__" 821 (r 383)], o7, tr [(197, 4, 350), (204, 4, 357), (207, 4, 362), (210, 4, 369), (213, 4, 374), (219, 4, 381)], co "Region" "Region" 760 195 0 0 0 0 340 false 181 341 .none .none .none .none 763 195 764, fr 342 3 339 "switchloom.regions" 732 0, o232, o7, o8, tu [("self", 773), ("name", 774), ("revision", 775), ("instances", 776), ("kept_digest", 777)], o7, gc 52 0, o235, o236, o7, o8, tu [("self", 784), ("vlan", 785)], o7, gc 52 1, co "instance_of" "Region.instance_of" 781 204 2 0 0 3 352 true 181 353 .none (r 354) (r 355) (r 356) 786 204 787, fcc 52 1 "switchloom.regions" 732 357, o7, o8, gc 52 2, o242, o243, o7, o8, tu [("self", 798), ("instance", 799)], o7, gc 52 3, co "vlans_of" "Region.vlans_of" 795 210 2 0 0 3 364 true 181 365 .none (r 366) (r 367) (r 368) 800 210 801, fcc 52 3 "switchloom.regions" 732 369, o7, o8, gc 52 4, o249, o250, o7, o8, tu [("self", 812), ("name", 813)], o7, gc 52 5, o253, o254, tu [("instances", 817), ("kept_digest", 818), ("name", 819), ("revision", 820)], o256 P, o257, gs "__dict__" 822 385 "function.__dict__" (.builtin "function.__dict__#set"), gs "__weakref__" 824 385 "ExceptionGroup.__weakref__" (.none), su 385 385 385, bf "object.__init_subclass__" 385, o7, o8, tu [("name", 832), ("revision", 833), ("instances", 834), ("vlan", 835)], o7, gm 53, o264, o265, o7, o8, tu [("one", 842), ("other", 843)], o7, gm 54, o268, o269, o270, o7, o21, dk P 7 [e "__module__" 866 (s "switchloom.mst_vectors" 847), e "__qualname__" 868 (s "TreeRow" 867), e "__firstlineno__" 870 (.int 236 869), e "__init__" 885 (r 418), e "vector" 895 (r 425), e "told" 903 (r 432), e "__static_attributes__" 912 (r 433)], o7, tr [(238, 4, 417), (248, 4, 424), (252, 4, 431)], co "TreeRow" "TreeRow" 861 236 0 0 0 0 408 false 181 409 .none .none .none .none 864 236 865, fr 410 3 407 "switchloom.mst_vectors" 847 0, o7, o8, tu [("self", 874), ("instance", 875), ("regional", 876), ("cost", 877), ("bridge_priority", 878), ("port_priority", 879), ("hops", 880), ("role", 881), ("flags", 882)], o7, gc 59 0, o277, o278, o7, o8, tu [("self", 889), ("mac", 890), ("number", 891), ("bridge", 892)], o7, gc 59 1, o281, o282, o7, o8, tu [("self", 899), ("head", 900)], o7, gc 59 2, co "told" "TreeRow.told" 896 252 1 0 0 3 426 true 181 427 .none (r 428) (r 429) (r 430) 901 252 902, fcc 59 2 "switchloom.mst_vectors" 847 431, tu [("bridge_priority", 904), ("cost", 905), ("flags", 906), ("hops", 907), ("instance", 908), ("port_priority", 909), ("regional", 910), ("role", 911)], o288 P, o289, gs "__dict__" 913 435 "function.__dict__" (.builtin "function.__dict__#set"), gs "__weakref__" 915 435 "ExceptionGroup.__weakref__" (.none), su 435 435 435, bf "object.__init_subclass__" 435, o7, o21, dk P 6 [e "__module__" 927 (s "switchloom.mst_vectors" 847), e "__qualname__" 929 (s "TreeTail" 928), e "__firstlineno__" 931 (.int 255 930), e "__init__" 943 (r 453), e "told" 949 (r 458), e "__static_attributes__" 955 (r 459)], o7, tr [(257, 4, 452), (264, 4, 457)], co "TreeTail" "TreeTail" 922 255 0 0 0 0 443 false 181 444 .none .none .none .none 925 255 926, fr 445 3 442 "switchloom.mst_vectors" 847 0, o7, o8, tu [("self", 935), ("region", 936), ("cost", 937), ("bridge", 938), ("hops", 939), ("rows", 940)], o7, gc 60 0, o300, o301, o7, o8, gc 60 1, co "told" "TreeTail.told" 944 264 1 0 0 3 454 true 181 455 .none .none .none (r 456) 947 264 948, fcc 60 1 "switchloom.mst_vectors" 847 457, tu [("bridge", 950), ("cost", 951), ("hops", 952), ("region", 953), ("rows", 954)], o306 P, o307, gs "__dict__" 956 461 "function.__dict__" (.builtin "function.__dict__#set"), gs "__weakref__" 958 461 "ExceptionGroup.__weakref__" (.none), su 461 461 461, bf "object.__init_subclass__" 461, o312, o313, o314, o315, o316, o317, o7, o8, gm 62, o319, o320, o7, o8, gm 63, o322, o323, o7, o8, gm 64, o325, o326, o7, o8, gm 65, o328, o329, o7, o8, gm 66, o331, o332, o7, o8, tu [("vector", 1007), ("tail", 1008), ("is_internal", 1009), ("root", 1010), ("cost", 1011), ("regional", 1012), ("port_id", 1013)], o7, gm 67, o337, o338, o7, o8, tu [("vector", 1020), ("cost", 1021), ("is_internal", 1022), ("own", 1023)], o7, gm 68, o341, o342, o7, o8, tu [("vector", 1030), ("cost", 1031)], o7, gm 69, o345, o346, o7, o8, tu [("vector", 1038), ("bridge", 1039), ("port_id", 1040)], o7, gm 70, o349, o350, o7, o8, tu [("one", 1047), ("other", 1048)], o7, gm 71, o353, o354, o7, o8, tu [("told", 1055), ("held", 1056)], o7, gm 72, o357, o358, o7, o8, tu [("bridge", 1067), ("tree", 1068), ("port", 1069), ("side", 1070)], o7, gm 75, o361, o362, o7, o8, tu [("bridge", 1077), ("tree", 1078), ("port", 1079)], o7, gm 76, o365, o366, o7, o8, tu [("tree", 1086)], o7, gm 77, o369, o370, o7, o8, tu [("bridge", 1093), ("tree", 1094), ("best", 1095), ("found", 1096), ("number", 1097), ("port", 1098), ("told", 1099), ("side", 1100)], o7, gm 78, o373, o374, o7, o8, tu [("bridge", 1107), ("tree", 1108), ("number", 1109), ("side", 1110), ("found", 1111)], o7, gm 79, o377, o378, o7, o8, tu [("bridge", 1118), ("tree", 1119), ("port", 1120)], o7, gm 80, o381, o382, o7, o8, tu [("bridge", 1127), ("number", 1128), ("role", 1129)], o7, gm 81, o385, o386, o7, o8, tu [("bridge", 1136), ("tree", 1137), ("number", 1138)], o7, gm 82, o389, o390, o7, o8, tu [("bridge", 1145), ("tree", 1146), ("found", 1147), ("number", 1148), ("port", 1149)], o7, gm 83, o393, o394, o7, o8, tu [("port", 1156)], o7, gm 84, o397, o398, o7, o8, tu [("bridge", 1163), ("port", 1164), ("is_internal", 1165), ("times", 1166), ("is_fresh", 1167)], o7, gm 85, o401, o402, o403, o7, o21, dk P 5 [e "__module__" 1184 (s "switchloom.mst_hear" 1171), e "__qualname__" 1186 (s "TreeTelling" 1185), e "__firstlineno__" 1188 (.int 387 1187), e "__init__" 1201 (r 630), e "__static_attributes__" 1208 (r 631)], o7, tr [(389, 4, 629)], co "TreeTelling" "TreeTelling" 1179 387 0 0 0 0 620 false 181 621 .none .none .none .none 1182 387 1183, fr 622 3 619 "switchloom.mst_hear" 1171 0, o7, o8, tu [("self", 1192), ("vector", 1193), ("age", 1194), ("hops", 1195), ("is_internal", 1196), ("role", 1197), ("flags", 1198)], o7, gc 88 0, o410, o411, tu [("age", 1202), ("flags", 1203), ("hops", 1204), ("is_internal", 1205), ("role", 1206), ("vector", 1207)], o413 P, o414, gs "__dict__" 1209 633 "function.__dict__" (.builtin "function.__dict__#set"), gs "__weakref__" 1211 633 "ExceptionGroup.__weakref__" (.none), su 633 633 633, bf "object.__init_subclass__" 633, o7, o8, tu [("bridge", 1219), ("bpdu", 1220), ("tail", 1221)], o7, gm 89, o421, o422, o7, o8, tu [("bpdu", 1228)], o7, gm 90, o425, o426, o7, o8, tu [("bpdu", 1235), ("tail", 1236), ("is_internal", 1237), ("vector", 1238), ("role", 1239)], o7, gm 91, o429, o430, o7, o8, tu [("bpdu", 1246), ("tail", 1247), ("row", 1248), ("vector", 1249)], o7, gm 92, o433, o434, o7, o8, tu [("bridge", 1256), ("tree", 1257), ("port", 1258), ("bpdu", 1259)], o7, gm 93, co "may_agree" "may_agree" 1253 414 4 0 0 3 666 true 181 667 .none (r 668) (r 669) (r 670) 1260 414 1261, fm 93 "switchloom.mst_hear" 1171 671, o7, o8, tu [("bridge", 1266), ("tree", 1267), ("port", 1268), ("told", 1269), ("bpdu", 1270)], o7, gm 94, o441, o442, o7, o8, tu [("bridge", 1277), ("port", 1278), ("told", 1279), ("times", 1280)], o7, gm 95, o445, o446, o7, o8, tu [("bridge", 1287), ("tree", 1288), ("port", 1289), ("told", 1290), ("bpdu", 1291)], o7, gm 96, o449, o450, o7, o8, tu [("bridge", 1298), ("tree", 1299), ("port", 1300), ("told", 1301), ("bpdu", 1302)], o7, gm 97, co "hear_again" "hear_again" 1295 437 5 0 0 3 694 true 181 695 .none (r 696) (r 697) (r 698) 1303 437 1304, fm 97 "switchloom.mst_hear" 1171 699, o7, o8, tu [("bridge", 1309), ("tree", 1310), ("port", 1311), ("told", 1312)], o7, gm 98, o457, o458, o7, o8, tu [("bridge", 1319), ("tree", 1320), ("port", 1321), ("told", 1322), ("bpdu", 1323), ("is_held", 1324)], o7, gm 99, o463, o464, o7, o8, tu [("bridge", 1331), ("number", 1332), ("is_internal", 1333), ("side", 1334), ("tree", 1335)], o7, gm 100, o467, o468, o7, o8, tu [("side", 1342), ("bpdu", 1343)], o7, gm 101, o471, o472, o7, o8, tu [("bridge", 1350), ("number", 1351), ("bpdu", 1352), ("side", 1353), ("tail", 1354), ("row", 1355), ("tree", 1356)], o7, gm 102, o475, o476, o7, o8, tu [("bridge", 1365), ("tree", 1366), ("port", 1367)], o7, gm 104, o479, o480, o7, o8, tu [("tree", 1374), ("number", 1375)], o7, gm 105, co "sync_all" "sync_all" 1371 500 1 0 0 3 743 true 181 744 .none (r 745) (r 746) (r 747) 1376 500 1377, fm 105 "switchloom.mst_moves" 1360 748, o7, o8, gm 106, o486, o487, o7, o8, tu [("bridge", 1388), ("tree", 1389), ("port", 1390)], o7, gm 107, o490, o491, o7, o8, gm 108, o493, o494, o7, o8, tu [("bridge", 1403), ("tree", 1404), ("port", 1405)], o7, gm 109, o497, o498, o7, o8, tu [("bridge", 1412), ("tree", 1413), ("port", 1414), ("side", 1415), ("is_shut", 1416), ("must_shut", 1417), ("may_open", 1418)], o7, gm 110, o501, o502, o7, o8, tu [("bridge", 1425), ("tree", 1426), ("port", 1427)], o7, gm 111, o505, o506, o7, o8, tu [("bridge", 1434), ("tree", 1435), ("port", 1436), ("other", 1437)], o7, gm 112, o509, o510, o7, o8, tu [("bridge", 1444), ("tree", 1445), ("port", 1446)], o7, gm 113, o513, o514, o7, o21, dk P 7 [e "__module__" 1459 (s "switchloom.mst_port" 1450), e "__qualname__" 1461 (s "PortSide" 1460), e "__firstlineno__" 1463 (.int 599 1462), e "__init__" 1471 (r 815), e "port_id" 1478 (r 822), e "begin" 1485 (r 829), e "__static_attributes__" 1496 (r 830)], o7, tr [(601, 4, 814), (613, 4, 821), (616, 4, 828)], co "PortSide" "PortSide" 1454 599 0 0 0 0 805 false 181 806 .none .none .none .none 1457 599 1458, fr 807 3 804 "switchloom.mst_port" 1450 0, o7, o8, tu [("self", 1467), ("row", 1468)], o7, gc 115 0, o521, o522, o7, o8, tu [("self", 1475)], o7, gc 115 1, o525, o526, o7, o8, tu [("self", 1482)], o7, gc 115 2, o529, o530, tu [("hello_left", 1486), ("is_edge", 1487), ("is_internal", 1488), ("is_up", 1489), ("many_sent", 1490), ("owes_ack", 1491), ("row", 1492), ("sends", 1493), ("settle_left", 1494), ("wants_to_send", 1495)], o532 P, o533, gs "__dict__" 1497 832 "function.__dict__" (.builtin "function.__dict__#set"), gs "__weakref__" 1499 832 "ExceptionGroup.__weakref__" (.none), su 832 832 832, bf "object.__init_subclass__" 832, o7, o21, dk P 9 [e "__module__" 1511 (s "switchloom.mst_port" 1450), e "__qualname__" 1513 (s "TreePort" 1512), e "__firstlineno__" 1515 (.int 626 1514), e "__init__" 1523 (r 850), e "clear" 1530 (r 857), e "state" 1537 (r 864), e "block" 1545 (r 871), e "told" 1553 (r 878), e "__static_attributes__" 1576 (r 879)], o7, tr [(628, 4, 849), (633, 4, 856), (655, 4, 863), (660, 4, 870), (665, 4, 877)], co "TreePort" "TreePort" 1506 626 0 0 0 0 840 false 181 841 .none .none .none .none 1509 626 1510, fr 842 3 839 "switchloom.mst_port" 1450 0, o7, o8, tu [("self", 1519), ("number", 1520)], o7, gc 116 0, o544, o545, o7, o8, tu [("self", 1527)], o7, gc 116 1, o548, o549, o7, o8, tu [("self", 1534)], o7, gc 116 2, co "state" "TreePort.state" 1531 655 1 0 0 3 858 true 181 859 .none (r 860) (r 861) (r 862) 1535 655 1536, fcc 116 2 "switchloom.mst_port" 1450 863, o7, o8, tu [("self", 1541), ("delay", 1542)], o7, gc 116 3, o556, o557, o7, o8, tu [("self", 1549), ("flags", 1550)], o7, gc 116 4, co "told" "TreePort.told" 1546 665 1 0 0 3 872 true 181 873 .none (r 874) (r 875) (r 876) 1551 665 1552, fcc 116 4 "switchloom.mst_port" 1450 877, tu [("age", 1554), ("agree", 1555), ("agreed", 1556), ("backup_left", 1557), ("change_left", 1558), ("designated", 1559), ("flushes", 1560), ("forward_left", 1561), ("forwards", 1562), ("hops", 1563), ("info", 1564), ("learns", 1565), ("life_left", 1566), ("number", 1567), ("proposed", 1568), ("proposing", 1569), ("re_root", 1570), ("role", 1571), ("root_left", 1572), ("sync", 1573), ("synced", 1574), ("vector", 1575)], o563 P, o564, gs "__dict__" 1577 881 "function.__dict__" (.builtin "function.__dict__#set"), gs "__weakref__" 1579 881 "ExceptionGroup.__weakref__" (.none), su 881 881 881, bf "object.__init_subclass__" 881, o7, o21, dk P 6 [e "__module__" 1591 (s "switchloom.mst_port" 1450), e "__qualname__" 1593 (s "TreeSide" 1592), e "__firstlineno__" 1595 (.int 668 1594), e "__init__" 1601 (r 897), e "others" 1607 (r 902), e "__static_attributes__" 1615 (r 903)], o7, tr [(670, 4, 896), (679, 4, 901)], co "TreeSide" "TreeSide" 1586 668 0 0 0 0 889 false 181 890 .none .none .none .none 1589 668 1590, fr 891 3 888 "switchloom.mst_port" 1450 0, o7, o8, gc 117 0, o576, o577, o7, o8, gc 117 1, o579, o580, tu [("age", 1608), ("bridge", 1609), ("hops", 1610), ("number", 1611), ("ports", 1612), ("root_port", 1613), ("vector", 1614)], o582 P, o583, gs "__dict__" 1616 905 "function.__dict__" (.builtin "function.__dict__#set"), gs "__weakref__" 1618 905 "ExceptionGroup.__weakref__" (.none), su 905 905 905, bf "object.__init_subclass__" 905, o589 P, o7, o8, tu [("port", 1641)], o7, gm 120, o594, o595, o7, o8, tu [("bridge", 1648), ("tree", 1649), ("number", 1650), ("port", 1651), ("vector", 1652), ("role", 1653), ("priority", 1654)], o7, gm 121, o598, o599, o7, o8, gm 122, o601, o602, o7, o8, tu [("bridge", 1667), ("number", 1668), ("side", 1669), ("port", 1670), ("root", 1671), ("cost", 1672), ("regional", 1673), ("inner", 1674), ("own", 1675), ("port_id", 1676), ("vector", 1677), ("flags", 1678), ("times", 1679), ("role", 1680), ("is_mst", 1681), ("tail", 1682)], o7, gm 123, o605, o606, o7, o8, tu [("bridge", 1689), ("number", 1690), ("number_of_tree", 1691), ("port", 1692)], o7, gm 124, co "sends_always" "sends_always" 1686 706 2 0 0 3 937 true 181 938 .none (r 939) (r 940) (r 941) 1693 706 1694, fm 124 "switchloom.mst_send" 1623 942, o7, o8, tu [("bridge", 1699), ("number", 1700), ("side", 1701), ("made", 1702)], o7, gm 125, o613, o614, o615, o7, o21, dk P 31 [e "__module__" 1723 (s "switchloom.mst" 1706), e "__qualname__" 1725 (s "MstBridge" 1724), e "__firstlineno__" 1727 (.int 726 1726), e "__init__" 1734 (r 964), e "numbers" 1741 (r 971), e "side" 1749 (r 978), e "delay" 1756 (r 985), e "instance_trees" 1762 (r 990), e "all_trees" 1769 (r 997), e "want_to_send" 1777 (r 1004), e "role" 1787 (r 1012), e "state" 1797 (r 1020), e "state_of_vlan" 1806 (r 1027), e "root" 1815 (r 1035), e "regional_root" 1822 (r 1042), e "root_port" 1831 (r 1050), e "link_up" 1840 (r 1057), e "link_down" 1848 (r 1064), e "receive" 1857 (r 1071), e "second" 1865 (r 1078), e "second_of" 1875 (r 1085), e "second_in" 1884 (r 1092), e "settle" 1892 (r 1099), e "step" 1903 (r 1106), e "sync_instances" 1913 (r 1113), e "are_instances_synced" 1924 (r 1120), e "tell_change" 1933 (r 1127), e "spread_change" 1943 (r 1134), e "take_flushed" 1950 (r 1141), e "take_sent" 1957 (r 1148), e "__static_attributes__" 1967 (r 1149)], o7, tr [(728, 4, 963), (746, 4, 970), (749, 4, 977), (752, 4, 984), (755, 4, 989), (758, 4, 996), (761, 4, 1003), (764, 4, 1011), (767, 4, 1019), (770, 4, 1026), (773, 4, 1034), (776, 4, 1041), (779, 4, 1049), (782, 4, 1056), (790, 4, 1063), (793, 4, 1070), (798, 4, 1077), (804, 4, 1084), (814, 4, 1091), (824, 4, 1098), (831, 4, 1105), (843, 4, 1112), (851, 4, 1119), (860, 4, 1126), (866, 4, 1133), (873, 4, 1140), (876, 4, 1147)], co "MstBridge" "MstBridge" 1718 726 0 0 0 0 955 false 181 956 .none .none .none .none 1721 726 1722, fr 957 3 954 "switchloom.mst" 1706 0, o622, o7, o8, gc 130 0, o624, o625, o7, o8, tu [("self", 1738)], o7, gc 130 1, o628, o629, o7, o8, tu [("self", 1745), ("number", 1746)], o7, gc 130 2, o632, o633, o7, o8, tu [("self", 1753)], o7, gc 130 3, o636, o637, o7, o8, gc 130 4, o639, o640, o7, o8, tu [("self", 1766)], o7, gc 130 5, o643, o644, o7, o8, tu [("self", 1773), ("number", 1774)], o7, gc 130 6, o647, o648, tv [.int 0 1778], o7, o8, tu [("self", 1782), ("number", 1783), ("instance", 1784)], o7, gc 130 7, co "role" "MstBridge.role" 1779 764 3 0 0 3 1006 true 181 1007 .none (r 1008) (r 1009) (r 1010) 1785 764 1786, fcd 130 7 1005 "switchloom.mst" 1706 1011, tv [.int 0 1788], o7, o8, tu [("self", 1792), ("number", 1793), ("instance", 1794)], o7, gc 130 8, co "state" "MstBridge.state" 1789 767 3 0 0 3 1014 true 181 1015 .none (r 1016) (r 1017) (r 1018) 1795 767 1796, fcd 130 8 1013 "switchloom.mst" 1706 1019, o7, o8, tu [("self", 1801), ("number", 1802), ("vlan", 1803)], o7, gc 130 9, co "state_of_vlan" "MstBridge.state_of_vlan" 1798 770 3 0 0 3 1021 true 181 1022 .none (r 1023) (r 1024) (r 1025) 1804 770 1805, fcc 130 9 "switchloom.mst" 1706 1026, tv [.int 0 1807], o7, o8, tu [("self", 1811), ("instance", 1812)], o7, gc 130 10, co "root" "MstBridge.root" 1808 773 2 0 0 3 1029 true 181 1030 .none (r 1031) (r 1032) (r 1033) 1813 773 1814, fcd 130 10 1028 "switchloom.mst" 1706 1034, o7, o8, tu [("self", 1819)], o7, gc 130 11, co "regional_root" "MstBridge.regional_root" 1816 776 1 0 0 3 1036 true 181 1037 .none (r 1038) (r 1039) (r 1040) 1820 776 1821, fcc 130 11 "switchloom.mst" 1706 1041, tv [.int 0 1823], o7, o8, tu [("self", 1827), ("instance", 1828)], o7, gc 130 12, co "root_port" "MstBridge.root_port" 1824 779 2 0 0 3 1044 true 181 1045 .none (r 1046) (r 1047) (r 1048) 1829 779 1830, fcd 130 12 1043 "switchloom.mst" 1706 1049, o7, o8, tu [("self", 1835), ("number", 1836), ("tree", 1837)], o7, gc 130 13, o679, o680, o7, o8, tu [("self", 1844), ("number", 1845)], o7, gc 130 14, co "link_down" "MstBridge.link_down" 1841 790 2 0 0 3 1058 true 181 1059 .none (r 1060) (r 1061) (r 1062) 1846 790 1847, fcc 130 14 "switchloom.mst" 1706 1063, o7, o8, tu [("self", 1852), ("number", 1853), ("bpdu", 1854)], o7, gc 130 15, o687, o688, o7, o8, tu [("self", 1861), ("number", 1862)], o7, gc 130 16, co "second" "MstBridge.second" 1858 798 1 0 0 3 1072 true 181 1073 .none (r 1074) (r 1075) (r 1076) 1863 798 1864, fcc 130 16 "switchloom.mst" 1706 1077, o7, o8, tu [("self", 1869), ("number", 1870), ("side", 1871), ("tree", 1872)], o7, gc 130 17, co "second_of" "MstBridge.second_of" 1866 804 2 0 0 3 1079 true 181 1080 .none (r 1081) (r 1082) (r 1083) 1873 804 1874, fcc 130 17 "switchloom.mst" 1706 1084, o7, o8, tu [("self", 1879), ("tree", 1880), ("port", 1881)], o7, gc 130 18, co "second_in" "MstBridge.second_in" 1876 814 3 0 0 3 1086 true 181 1087 .none (r 1088) (r 1089) (r 1090) 1882 814 1883, fcc 130 18 "switchloom.mst" 1706 1091, o7, o8, tu [("self", 1888), ("turn", 1889)], o7, gc 130 19, o703, o704, o7, o8, tu [("self", 1896), ("is_moved", 1897), ("tree", 1898), ("port", 1899), ("number", 1900)], o7, gc 130 20, o707, o708, o7, o8, tu [("self", 1907), ("number", 1908), ("tree", 1909), ("port", 1910)], o7, gc 130 21, co "sync_instances" "MstBridge.sync_instances" 1904 843 2 0 0 3 1107 true 181 1108 .none (r 1109) (r 1110) (r 1111) 1911 843 1912, fcc 130 21 "switchloom.mst" 1706 1112, o7, o8, tu [("self", 1917), ("tree", 1918), ("number", 1919), ("other", 1920), ("port", 1921)], o7, gc 130 22, o715, o716, o7, o8, tu [("self", 1928), ("tree", 1929), ("port", 1930)], o7, gc 130 23, o719, o720, o7, o8, tu [("self", 1937), ("tree", 1938), ("number", 1939), ("port", 1940)], o7, gc 130 24, o723, o724, o7, o8, tu [("self", 1947)], o7, gc 130 25, co "take_flushed" "MstBridge.take_flushed" 1944 873 1 0 0 3 1135 true 181 1136 .none (r 1137) (r 1138) (r 1139) 1948 873 1949, fcc 130 25 "switchloom.mst" 1706 1140, o7, o8, tu [("self", 1954)], o7, gc 130 26, co "take_sent" "MstBridge.take_sent" 1951 876 1 0 0 3 1142 true 181 1143 .none (r 1144) (r 1145) (r 1146) 1955 876 1956, fcc 130 26 "switchloom.mst" 1706 1147, tu [("cist", 1958), ("hold", 1959), ("most_hops", 1960), ("region", 1961), ("region_octets", 1962), ("sent", 1963), ("sides", 1964), ("times", 1965), ("trees", 1966)], o734 P, o735, gs "__dict__" 1968 1151 "function.__dict__" (.builtin "function.__dict__#set"), gs "__weakref__" 1970 1151 "ExceptionGroup.__weakref__" (.none), su 1151 1151 1151, bf "object.__init_subclass__" 1151, o7, o21, dk P 6 [e "__module__" 1984 (s "switchloom.rapid_port" 1975), e "__qualname__" 1986 (s "PortRow" 1985), e "__firstlineno__" 1988 (.int 879 1987), e "__init__" 2000 (r 1170), e "port_id" 2007 (r 1177), e "__static_attributes__" 2013 (r 1178)], o7, tr [(881, 4, 1169), (888, 4, 1176)], co "PortRow" "PortRow" 1979 879 0 0 0 0 1159 false 181 1160 .none .none .none .none 1982 879 1983, fr 1161 3 1158 "switchloom.rapid_port" 1975 0, o746, o7, o8, tu [("self", 1992), ("number", 1993), ("priority", 1994), ("cost", 1995), ("is_edge", 1996), ("is_straight", 1997)], o7, gc 132 0, o749, o750, o7, o8, tu [("self", 2004)], o7, gc 132 1, co "port_id" "PortRow.port_id" 2001 888 1 0 0 3 1171 true 181 1172 .none (r 1173) (r 1174) (r 1175) 2005 888 2006, fcc 132 1 "switchloom.rapid_port" 1975 1176, tu [("cost", 2008), ("is_edge", 2009), ("is_straight", 2010), ("number", 2011), ("priority", 2012)], o756 P, o757, gs "__dict__" 2014 1180 "function.__dict__" (.builtin "function.__dict__#set"), gs "__weakref__" 2016 1180 "ExceptionGroup.__weakref__" (.none), su 1180 1180 1180, bf "object.__init_subclass__" 1180, o7, o8, tu [("script", 2026), ("row", 2027), ("cell", 2028), ("big", 2029), ("mixed", 2030)], o7, gm 134, o764, o765, o7, o8, tu [("source", 2037), ("top", 2038), ("drawn", 2039)], o7, gm 135, o768, o769, o7, o8, tu [("source", 2046), ("things", 2047)], o7, gm 136, o772, o773, o7, o8, gm 137, o775, o776, o7, o8, tu [("way", 2060), ("region", 2061), ("numbers", 2062), ("priority", 2063), ("other", 2064), ("times", 2065), ("vector", 2066), ("rows", 2067), ("number", 2068), ("octets", 2069), ("tail", 2070)], o7, gm 138, o779, o780, o7, o8, gm 139, o782, o783, o7, o8, gm 140, o785, o786]
def lv (P : Params) (n : Nat) (a b c : Obj) : List Obj := ((((lz P).take n).set 2 a).set 3 b).set 12 c
def la (P : Params) : List Obj := lv P 15 (o2) (o3 P) (o8)
def l7 (P : Params) : List Obj := lv P 98 (o13 P) (o14 P) (o15)
def l8 (P : Params) : List Obj := lv P 99 (o13 P) (o72 P) (o15)
def l30 (P : Params) : List Obj := lv P 272 (o13 P) (o74 P) (o75)
def l47 (P : Params) : List Obj := lv P 332 (o13 P) (o181 P) (o182)
def l48 (P : Params) : List Obj := lv P 337 (o13 P) (o221 P) (o182)
def l66 (P : Params) : List Obj := lv P 497 (o13 P) (o226 P) (o227)
def l98 (P : Params) : List Obj := lv P 708 (o13 P) (o333 P) (o334)
def l116 (P : Params) : List Obj := lv P 886 (o13 P) (o459 P) (o460)
def l118 (P : Params) : List Obj := lv P 910 (o13 P) (o569 P) (o570)
def l119 (P : Params) : List Obj := lv P 911 (o13 P) (o588 P) (o570)
def l129 (P : Params) : List Obj := lv P 952 (o13 P) (o590 P) (o591)
def l130 (P : Params) : List Obj := lv P 1156 (o13 P) (o616 P) (o617)
noncomputable def btGo : List Obj → Nat → BT → BT
 | [], _, t => t
 | o :: r, i, t => btGo r (i + 1) (t.ins i o)
noncomputable def life0 : Life := {}
noncomputable def sT (l : Params → List Obj) (n t : Nat) (w : World) (os : OsState) : SharedT := ⟨btGo (l w.params) 0 .nil, n, life0, #[], {}, t, os⟩
noncomputable def envM : PySem.Env := { scope := pn.main.scope, locals := mainNs, globals := mainNs, cells := [], code := .ref 13, frame := some 14 }
noncomputable def bodyM : List Stmt := behindTheImports pn
noncomputable def cM : Code := .body bodyM envM
noncomputable def qM : Pos := ⟨0, 0, 0, 0⟩
noncomputable def annM : Option Value := some (.ref 6)
noncomputable abbrev rT := PySem.W.Fast.tw10110043849684766642 PySem.W.Fast.tw14364793385576792824
noncomputable def sa (w : World) (os : OsState) : SharedT := sT la 15 187 w os
noncomputable def s7 (w : World) (os : OsState) : SharedT := sT l7 98 302 w os
noncomputable def s8 (w : World) (os : OsState) : SharedT := sT l8 99 312 w os
noncomputable def s30 (w : World) (os : OsState) : SharedT := sT l30 272 569 w os
noncomputable def s47 (w : World) (os : OsState) : SharedT := sT l47 332 734 w os
noncomputable def s48 (w : World) (os : OsState) : SharedT := sT l48 337 752 w os
noncomputable def s66 (w : World) (os : OsState) : SharedT := sT l66 497 1004 w os
noncomputable def s98 (w : World) (os : OsState) : SharedT := sT l98 708 1316 w os
noncomputable def s116 (w : World) (os : OsState) : SharedT := sT l116 886 1584 w os
noncomputable def s118 (w : World) (os : OsState) : SharedT := sT l118 910 1625 w os
noncomputable def s119 (w : World) (os : OsState) : SharedT := sT l119 911 1638 w os
noncomputable def s129 (w : World) (os : OsState) : SharedT := sT l129 952 1716 w os
noncomputable def s130 (w : World) (os : OsState) : SharedT := sT l130 1156 1975 w os
noncomputable def sz (w : World) (os : OsState) : SharedT := sT lz 1228 2086 w os
noncomputable def seg (a n : Nat) : List Stmt := (bodyM.drop a).take n
theorem pc0 (w : World) (os : OsState) : rT pn w 11 annM 1 1163 (sa w os) (piecesOf (seg 0 8) envM cM ⟨0, 0, 0, 0⟩ [topFrame qM]) = some (.next, s7 w os, cM, ⟨21, 0, 21, 8⟩) := by kernel_rfl
theorem pc1b (b : Bool) (w : World) (os : OsState) : rT pn (w.withFollow "special-get-raises" b) 11 annM 1 56 (s7 (w.withFollow "special-get-raises" b) os) (piecesOf (seg 8 1) envM cM ⟨21, 0, 21, 8⟩ [topFrame qM]) = some (.next, s8 (w.withFollow "special-get-raises" b) os, cM, ⟨22, 0, 22, 5⟩) := by
 cases b <;> kernel_rfl
theorem pc1 (w : World) (os : OsState) : rT pn w 11 annM 1 56 (s7 w os) (piecesOf (seg 8 1) envM cM ⟨21, 0, 21, 8⟩ [topFrame qM]) = some (.next, s8 w os, cM, ⟨22, 0, 22, 5⟩) :=
 byRow2 "special-get-raises" (P := fun w => rT pn w 11 annM 1 56 (s7 w os) (piecesOf (seg 8 1) envM cM ⟨21, 0, 21, 8⟩ [topFrame qM]) = some (.next, s8 w os, cM, ⟨22, 0, 22, 5⟩)) (fun w => pc1b false w os) (fun w => pc1b true w os) w
theorem pc2 (w : World) (os : OsState) : rT pn w 11 annM 1 1104 (s8 w os) (piecesOf (seg 9 22) envM cM ⟨22, 0, 22, 5⟩ [topFrame qM]) = some (.next, s30 w os, cM, ⟨124, 0, 138, 222⟩) := by kernel_rfl
theorem pc3 (w : World) (os : OsState) : rT pn w 11 annM 1 424 (s30 w os) (piecesOf (seg 31 17) envM cM ⟨124, 0, 138, 222⟩ [topFrame qM]) = some (.next, s47 w os, cM, ⟨190, 0, 190, 8⟩) := by kernel_rfl
theorem pc4b (b : Bool) (w : World) (os : OsState) : rT pn (w.withFollow "special-get-raises" b) 11 annM 1 316 (s47 (w.withFollow "special-get-raises" b) os) (piecesOf (seg 48 1) envM cM ⟨190, 0, 190, 8⟩ [topFrame qM]) = some (.next, s48 (w.withFollow "special-get-raises" b) os, cM, ⟨191, 0, 191, 10⟩) := by
 cases b <;> kernel_rfl
theorem pc4 (w : World) (os : OsState) : rT pn w 11 annM 1 316 (s47 w os) (piecesOf (seg 48 1) envM cM ⟨190, 0, 190, 8⟩ [topFrame qM]) = some (.next, s48 w os, cM, ⟨191, 0, 191, 10⟩) :=
 byRow2 "special-get-raises" (P := fun w => rT pn w 11 annM 1 316 (s47 w os) (piecesOf (seg 48 1) envM cM ⟨190, 0, 190, 8⟩ [topFrame qM]) = some (.next, s48 w os, cM, ⟨191, 0, 191, 10⟩)) (fun w => pc4b false w os) (fun w => pc4b true w os) w
theorem pc5 (w : World) (os : OsState) : rT pn w 11 annM 1 1239 (s48 w os) (piecesOf (seg 49 18) envM cM ⟨191, 0, 191, 10⟩ [topFrame qM]) = some (.next, s66 w os, cM, ⟨284, 0, 294, 82⟩) := by kernel_rfl
theorem pc6 (w : World) (os : OsState) : rT pn w 11 annM 1 1130 (s66 w os) (piecesOf (seg 67 32) envM cM ⟨284, 0, 294, 82⟩ [topFrame qM]) = some (.next, s98 w os, cM, ⟨442, 0, 446, 38⟩) := by kernel_rfl
theorem pc7 (w : World) (os : OsState) : rT pn w 11 annM 1 1117 (s98 w os) (piecesOf (seg 99 18) envM cM ⟨442, 0, 446, 38⟩ [topFrame qM]) = some (.next, s116 w os, cM, ⟨626, 0, 667, 71⟩) := by kernel_rfl
theorem pc8 (w : World) (os : OsState) : rT pn w 11 annM 1 262 (s116 w os) (piecesOf (seg 117 2) envM cM ⟨626, 0, 667, 71⟩ [topFrame qM]) = some (.next, s118 w os, cM, ⟨681, 0, 681, 8⟩) := by kernel_rfl
theorem pc9b (b : Bool) (w : World) (os : OsState) : rT pn (w.withFollow "special-get-raises" b) 11 annM 1 71 (s118 (w.withFollow "special-get-raises" b) os) (piecesOf (seg 119 1) envM cM ⟨681, 0, 681, 8⟩ [topFrame qM]) = some (.next, s119 (w.withFollow "special-get-raises" b) os, cM, ⟨682, 0, 682, 10⟩) := by
 cases b <;> kernel_rfl
theorem pc9 (w : World) (os : OsState) : rT pn w 11 annM 1 71 (s118 w os) (piecesOf (seg 119 1) envM cM ⟨681, 0, 681, 8⟩ [topFrame qM]) = some (.next, s119 w os, cM, ⟨682, 0, 682, 10⟩) :=
 byRow2 "special-get-raises" (P := fun w => rT pn w 11 annM 1 71 (s118 w os) (piecesOf (seg 119 1) envM cM ⟨681, 0, 681, 8⟩ [topFrame qM]) = some (.next, s119 w os, cM, ⟨682, 0, 682, 10⟩)) (fun w => pc9b false w os) (fun w => pc9b true w os) w
theorem pc10 (w : World) (os : OsState) : rT pn w 11 annM 1 239 (s119 w os) (piecesOf (seg 120 10) envM cM ⟨682, 0, 682, 10⟩ [topFrame qM]) = some (.next, s129 w os, cM, ⟨725, 0, 725, 15⟩) := by kernel_rfl
theorem pc11 (w : World) (os : OsState) : rT pn w 11 annM 1 1082 (s129 w os) (piecesOf (seg 130 1) envM cM ⟨725, 0, 725, 15⟩ [topFrame qM]) = some (.next, s130 w os, cM, ⟨726, 0, 877, 16⟩) := by kernel_rfl
theorem pc12 (w : World) (os : OsState) : rT pn w 11 annM 1 492 (s130 w os) (piecesOf (seg 131 10) envM cM ⟨726, 0, 877, 16⟩ [topFrame qM]) = some (.next, sz w os, cM, ⟨960, 0, 977, 15⟩) := by kernel_rfl
end
end Mine
end
section
namespace Mine
open PySem PySem.W PySem.Calls PyProof.Rows
noncomputable section
noncomputable def bodyOf (s : Stmt) : List Stmt := match s with
 | .FunctionDef _ _ body _ _ _ _ _ _ _ => body
 | _ => []
noncomputable def scOf (s : Stmt) : Scope := match s with
 | .FunctionDef _ _ _ _ _ _ scope _ _ _ => scope
 | _ => default
noncomputable def K0 (P : Params) : Frag := [(3, o740 P), (98, o73 P), (99, o76), (112, o83), (113, o84), (119, o87), (120, o88), (129, o94 P), (130, o95), (142, o104), (148, o107), (149, o108), (155, o111), (156, o112), (162, o115), (163, o116), (165, o118 P), (166, o119), (181, o128), (182, o129), (188, o132), (189, o133), (195, o136), (196, o137), (202, o140), (203, o141), (209, o144), (210, o145), (216, o148), (217, o149), (223, o152), (224, o153), (230, o156), (231, o157), (237, o160), (238, o161), (244, o164), (245, o165), (249, o167), (250, o168), (256, o171), (257, o172), (263, o175), (264, o176), (270, o179), (271, o180), (323, o215), (324, o216), (330, o219), (331, o220), (344, o232), (350, o235), (351, o236), (362, o242), (363, o243), (374, o249), (375, o250), (381, o253), (382, o254), (384, o256 P), (385, o257), (395, o264), (396, o265), (402, o268), (403, o269), (404, o270), (417, o277), (418, o278), (424, o281), (425, o282), (434, o288 P), (435, o289), (452, o300), (453, o301), (460, o306 P), (461, o307), (466, o312), (467, o313), (468, o314), (469, o315), (470, o316), (471, o317), (475, o319), (476, o320), (480, o322), (481, o323), (485, o325), (486, o326), (490, o328), (491, o329), (495, o331), (496, o332), (502, o337), (503, o338), (509, o341), (510, o342), (516, o345), (517, o346), (523, o349), (524, o350), (530, o353), (531, o354), (537, o357), (538, o358), (544, o361), (545, o362), (551, o365), (552, o366), (558, o369), (559, o370), (565, o373), (566, o374), (572, o377), (573, o378), (579, o381), (580, o382), (586, o385), (587, o386), (593, o389), (594, o390), (600, o393), (601, o394), (607, o397), (608, o398), (614, o401), (615, o402), (616, o403), (629, o410), (630, o411), (632, o413 P), (633, o414), (643, o421), (644, o422), (650, o425), (651, o426), (657, o429), (658, o430), (664, o433), (665, o434), (678, o441), (679, o442), (685, o445), (686, o446), (692, o449), (693, o450), (706, o457), (707, o458), (713, o463), (714, o464), (720, o467), (721, o468), (727, o471), (728, o472), (734, o475), (735, o476), (741, o479), (742, o480), (753, o486), (754, o487), (760, o490), (761, o491), (765, o493), (766, o494), (772, o497), (773, o498), (779, o501), (780, o502), (786, o505), (787, o506), (793, o509), (794, o510), (800, o513), (801, o514), (814, o521), (815, o522), (821, o525), (822, o526), (828, o529), (829, o530), (831, o532 P), (832, o533), (849, o544), (850, o545), (856, o548), (857, o549), (870, o556), (871, o557), (880, o563 P), (881, o564), (896, o576), (897, o577), (901, o579), (902, o580), (904, o582 P), (905, o583), (910, o589 P), (916, o594), (917, o595), (923, o598), (924, o599), (928, o601), (929, o602), (935, o605), (936, o606), (949, o613), (950, o614), (951, o615), (959, o622), (963, o624), (964, o625), (970, o628), (971, o629), (977, o632), (978, o633), (984, o636), (985, o637), (989, o639), (990, o640), (996, o643), (997, o644), (1003, o647), (1004, o648), (1056, o679), (1057, o680), (1070, o687), (1071, o688), (1098, o703), (1099, o704), (1105, o707), (1106, o708), (1119, o715), (1120, o716), (1126, o719), (1127, o720), (1133, o723), (1134, o724), (1150, o734 P), (1151, o735), (1163, o746), (1169, o749), (1170, o750), (1179, o756 P), (1180, o757), (1190, o764), (1191, o765), (1197, o768), (1198, o769), (1204, o772), (1205, o773), (1209, o775), (1210, o776), (1216, o779), (1217, o780), (1221, o782), (1222, o783), (1226, o785), (1227, o786)]
noncomputable def nmT : List Str := [("near" : Str), ("ascii" : Str), ("mst" : Str), ("disabled" : Str), ("received" : Str), ("root" : Str), ("master" : Str), ("designated" : Str), ("backup" : Str), ("alternate" : Str), ("mine" : Str), ("change" : Str), ("proposal" : Str), ("learning" : Str), ("forwarding" : Str), ("agreement" : Str), ("old" : Str), ("rapid" : Str), ("aged" : Str), ("config" : Str), ("far" : Str), ("none" : Str)]
noncomputable def nm0 (k : Nat) : Str := match nmT[k]? with | some s => s | none => ⟨⟨[k + 2000000]⟩⟩
noncomputable def anT : List (List (Option Str)) := [[],
 [],
 [],
 [],
 [],
 [some ("delay" : Str), some ("hello" : Str), some ("max_age" : Str), none, none, none, none, none, none, some ("age" : Str)],
 [some ("kind" : Str), some ("role" : Str), some ("vector" : Str), some ("times" : Str), some ("tail" : Str), some ("version" : Str), some ("is_change" : Str), some ("is_agreement" : Str), some ("is_forwarding" : Str), some ("is_learning" : Str), some ("is_proposal" : Str), some ("is_change_ack" : Str)],
 [some ("kept_digest" : Str), some ("instances" : Str), some ("name" : Str), some ("revision" : Str)],
 [some ("instance" : Str), some ("role" : Str), some ("cost" : Str), some ("flags" : Str), some ("bridge_priority" : Str), some ("port_priority" : Str), some ("regional" : Str), none, some ("hops" : Str)],
 [some ("rows" : Str), none, some ("cost" : Str), some ("bridge" : Str), some ("region" : Str), none, none, none, some ("hops" : Str)],
 [some ("is_internal" : Str), some ("role" : Str), some ("vector" : Str), some ("flags" : Str), none, none, none, none, some ("hops" : Str), some ("age" : Str)],
 [some ("is_internal" : Str), some ("row" : Str), some ("is_up" : Str), some ("sends" : Str), some ("is_edge" : Str), some ("many_sent" : Str), some ("wants_to_send" : Str), some ("hello_left" : Str), some ("owes_ack" : Str), some ("settle_left" : Str)],
 [some ("number" : Str), some ("role" : Str), some ("vector" : Str), some ("info" : Str), some ("designated" : Str), some ("synced" : Str), some ("forwards" : Str), some ("learns" : Str), some ("hops" : Str), some ("age" : Str), some ("sync" : Str), some ("re_root" : Str), some ("agreed" : Str), some ("root_left" : Str), some ("forward_left" : Str), some ("agree" : Str), some ("proposed" : Str), some ("proposing" : Str), some ("change_left" : Str), some ("backup_left" : Str), some ("life_left" : Str), some ("flushes" : Str)],
 [some ("number" : Str), some ("ports" : Str), some ("vector" : Str), some ("bridge" : Str), some ("root_port" : Str), none, none, none, some ("hops" : Str), some ("age" : Str)],
 [some ("sides" : Str), some ("trees" : Str), some ("cist" : Str), some ("times" : Str), some ("region" : Str), some ("most_hops" : Str), some ("region_octets" : Str), some ("hold" : Str), some ("sent" : Str)],
 [some ("number" : Str), some ("priority" : Str), some ("cost" : Str), some ("is_straight" : Str), some ("is_edge" : Str)]]
noncomputable def an0 (c k : Nat) : Option Str := ((anT.getD c []).getD k none)
noncomputable def cls0 (c : Nat) : Addr := [38, 51, 63, 75, 95, 130, 166, 385, 435, 461, 633, 832, 881, 905, 1151, 1180].getD c 0
theorem nm0_inj (i j : Nat) (h : nm0 i = nm0 j) : i = j := by
 have hnd : nmT.Nodup := by decide +kernel
 have hlt : ∀ s ∈ nmT, ∀ k, s ≠ (⟨⟨[k + 2000000]⟩⟩ : Str) := by
  intro s hs k e
  have h1 : ∀ s ∈ nmT, s.cps.toList.all (· < 2000000) = true := by decide +kernel
  have h2 := h1 s hs
  rw [e] at h2
  revert h2
  show ((decide (k + 2000000 < 2000000)) && true) = true → False
  rw [decide_eq_false (by omega)]
  intro h; cases h
 unfold nm0 at h
 cases hi : nmT[i]? with
 | none =>
  cases hj : nmT[j]? with
  | none =>
   rw [hi, hj] at h
   injection h with h; injection h with h
   simpa using h
  | some s =>
   rw [hi, hj] at h
   exact absurd h.symm (hlt s (List.mem_of_getElem? hj) i)
 | some s =>
  cases hj : nmT[j]? with
  | none =>
   rw [hi, hj] at h
   exact absurd h (hlt s (List.mem_of_getElem? hi) j)
  | some s' =>
   rw [hi, hj] at h
   have h : s = s' := h
   subst h
   obtain ⟨a1, a2⟩ := List.getElem?_eq_some_iff.mp hi
   obtain ⟨b1, b2⟩ := List.getElem?_eq_some_iff.mp hj
   have key := List.pairwise_iff_getElem.mp hnd
   rcases Nat.lt_trichotomy i j with h | h | h
   · exact absurd (a2.trans b2.symm) (key i j a1 b1 h)
   · exact h
   · exact absurd (b2.trans a2.symm) (key j i b1 a1 h)
theorem an0_lt (c i : Nat) (x : Str) (h : an0 c i = some x) : i < 64 := by
 unfold an0 at h
 have h1 : ∀ l ∈ anT, l.length ≤ 64 := by decide +kernel
 by_cases hi : i < 64
 · exact hi
 · exfalso
   have : (anT.getD c []).length ≤ 64 := by
    rw [List.getD_eq_getElem?_getD]
    cases hc : anT[c]? with
    | none => simp
    | some l => exact h1 l (List.mem_of_getElem? hc)
   rw [List.getD_eq_getElem?_getD, List.getElem?_eq_none (by omega)] at h
   cases h
theorem an0_inj (c i j : Nat) (x : Str) (h1 : an0 c i = some x) (h2 : an0 c j = some x) : i = j := by
 have hi := an0_lt c i x h1
 have hj := an0_lt c j x h2
 by_cases hc : c < anT.length
 · have key : ∀ c < anT.length, ∀ i < 64, ∀ j < 64, (an0 c i).isSome = true → an0 c i = an0 c j → i = j := by decide +kernel
   exact key c hc i hi j hj (by rw [h1]; rfl) (h1.trans h2.symm)
 · unfold an0 at h1
   rw [List.getD_eq_getElem?_getD (l := anT), List.getElem?_eq_none (by omega)] at h1
   simp at h1
noncomputable def stage (prog p : Program) (w : World) (loose : List Str) (mg mb : Str → Option Value) (gens : Array GenState) (drawn : Drawn) (os : OsState) : Stage :=
 ⟨prog, w, K0 w.params, p, loose, mg, mb, cls0, nm0, an0, gens, drawn, os, nm0_inj, an0_inj, an0_lt⟩
end
end Mine
end
section
namespace Mine
open PySem PySem.W PySem.Calls PyProof.Rows
noncomputable section
structure Su where
 prog : Program
 p : Program
 w : World
 loose : List PySem.Str
 mg : PySem.Str → Option Value
 mb : PySem.Str → Option Value
 gens : Array GenState
 drawn : Drawn
 os : OsState
def st (u : Su) : Stage := stage u.prog u.p u.w u.loose u.mg u.mb u.gens u.drawn u.os
theorem noSys {u : Su} : NoSys (st u) := fun es nn h => by
 have e : (st u).K.lookup sysModules = none := by kernel_rfl
 rw [e] at h; cases h
theorem freeOf {u : Su} (c : Nat) (h : ((anT.getD c []).all fun o => match o with | none => true | some x => match findIn (st u).K (.ref ((st u).cls c)) x with | some none => true | _ => false) = true) : ∀ k x, (st u).an c k = some x → findIn (st u).K (.ref ((st u).cls c)) x = some none := fun k x e => by
 have e : (anT.getD c []).getD k none = some x := e
 have hm : some x ∈ anT.getD c [] := by
  rw [List.getD_eq_getElem?_getD] at e
  cases q : (anT.getD c [])[k]? with
  | none => rw [q] at e; cases e
  | some y =>
   rw [q] at e
   have e : y = some x := e
   subst e
   exact List.mem_of_getElem? q
 have h1 := List.all_eq_true.mp h _ hm
 dsimp only at h1
 split at h1
 · assumption
 · cases h1
theorem ownOf {u : Su} (c : Nat) (x : PySem.Str) (h : (anT.getD c []).all (fun o => !(o == some x)) = true) : ∀ k, (st u).an c k ≠ some x := fun k e => by
 have e : (anT.getD c []).getD k none = some x := e
 have hm : some x ∈ anT.getD c [] := by
  rw [List.getD_eq_getElem?_getD] at e
  cases q : (anT.getD c [])[k]? with
  | none => rw [q] at e; cases e
  | some y =>
   rw [q] at e
   have e : y = some x := e
   subst e
   exact List.mem_of_getElem? q
 have := List.all_eq_true.mp h _ hm
 simp at this
theorem encOf {x y : PySem.Str} {b : Array UInt8} (h : FBj.Enc x b) (e : x = y) : FBj.Enc y b := e ▸ h
theorem hnsOf {ns : List (Option PySem.Str)} {ks : List Nat} {xs : List PySem.Str} (h : ((ks.zip xs).all fun p => ns[p.1]? == some (some p.2)) = true) : ∀ (i : Nat) k x, ks[i]? = some k → xs[i]? = some x → ns[k]? = some (some x) := fun i k x h1 h2 => by
 have hm : (k, x) ∈ ks.zip xs := by
  induction ks generalizing i xs with
  | nil => simp at h1
  | cons a ks ih => cases xs with
   | nil => simp at h2
   | cons b xs => cases i with
    | zero => simp at h1 h2; subst h1; subst h2; simp
    | succ i => exact List.mem_cons_of_mem _ (ih (by simp only [List.zip_cons_cons, List.all_cons, Bool.and_eq_true] at h; exact h.2) i (by simpa using h1) (by simpa using h2))
 have := List.all_eq_true.mp h _ hm
 simpa using this
abbrev so (x : PySem.Str) : Option PySem.Str := some x
theorem len0 {P : List Value → Prop} (h : P []) (cs : List Value) (e : cs.length = 0) : P cs := by
 cases cs with
 | nil => exact h
 | cons a cs => cases e
theorem lenE {n : Nat} {cs : List Value} (e : cs.length = n + 1) : ∃ a t, cs = a :: t ∧ t.length = n := by
 cases cs with
 | nil => cases e
 | cons a cs => exact ⟨a, cs, rfl, Nat.succ.inj e⟩
theorem lenS {n : Nat} {P : List Value → Prop} (h : ∀ a cs, cs.length = n → P (a :: cs)) (cs : List Value) (e : cs.length = n + 1) : P cs := by
 cases cs with
 | nil => cases e
 | cons a cs => exact h a cs (Nat.succ.inj e)
theorem tabOf {α : Type} {k j : Nat} {a b : OL α} {v : α} (h : (Bool.rec b a (Nat.beq k j) : OL α) = .at v) : (k = j ∧ a = .at v) ∨ b = .at v := by
 cases q : Nat.beq k j with
 | true => rw [q] at h; exact .inl ⟨Nat.eq_of_beq_eq_true q, h⟩
 | false => rw [q] at h; exact .inr h
theorem hLen {u : Su} : ∀ k n, strLen k = .at n → ((st u).nm k).length = n ∧ n ≤ 4096 := fun k v h => by
 rcases tabOf h with ⟨rfl, h1⟩ | h
 · cases h1; exact ⟨by kernel_rfl, by decide⟩
 rcases tabOf h with ⟨rfl, h1⟩ | h
 · cases h1; exact ⟨by kernel_rfl, by decide⟩
 cases h
theorem hAsc {u : Su} : ∀ k v, strAsc k = .at v → v = .bool (Txt.isascii ((st u).nm k)) := fun k v h => by
 rcases tabOf h with ⟨rfl, h1⟩ | h
 · cases h1; exact congrArg V.bool (by kernel_rfl)
 rcases tabOf h with ⟨rfl, h1⟩ | h
 · cases h1; exact congrArg V.bool (by kernel_rfl)
 cases h
theorem hNul {u : Su} : ∀ k v, strNul k = .at v → v = .bool (!(Builtin.Str.occurrences ((st u).nm k) (⟨⟨[0]⟩⟩ : PySem.Str) 0 ((st u).nm k).length 1).isEmpty) := fun k v h => by
 rcases tabOf h with ⟨rfl, h1⟩ | h
 · cases h1; exact congrArg V.bool (by kernel_rfl)
 rcases tabOf h with ⟨rfl, h1⟩ | h
 · cases h1; exact congrArg V.bool (by kernel_rfl)
 cases h
theorem hEnc {u : Su} : ∀ k v, strEnc k = .at v → ∃ l b, v = .bytes l ∧ FBj.Enc ((st u).nm k) b ∧ b.size ≤ 4096 ∧ b.toList.map UInt8.toNat = l := fun k v h => by
 rcases tabOf h with ⟨rfl, h1⟩ | h
 · cases h1; exact ⟨_, #[110, 101, 97, 114], rfl, encOf FBj.enc_near (by kernel_rfl), by decide, by decide⟩
 rcases tabOf h with ⟨rfl, h1⟩ | h
 · cases h1; exact ⟨_, #[102, 97, 114], rfl, encOf FBj.enc_far (by kernel_rfl), by decide, by decide⟩
 cases h
theorem hRep {u : Su} : ∀ k v, strRep k = .at v → v = .str k ∧ (Builtin.Str.occurrences ((st u).nm k) ((st u).nm 8) 0 ((st u).nm k).length (((st u).nm k).length + 1)).isEmpty = true := fun k v h => by
 rcases tabOf h with ⟨rfl, h1⟩ | h
 · cases h1; exact ⟨rfl, by kernel_rfl⟩
 rcases tabOf h with ⟨rfl, h1⟩ | h
 · cases h1; exact ⟨rfl, by kernel_rfl⟩
 rcases tabOf h with ⟨rfl, h1⟩ | h
 · cases h1; exact ⟨rfl, by kernel_rfl⟩
 rcases tabOf h with ⟨rfl, h1⟩ | h
 · cases h1; exact ⟨rfl, by kernel_rfl⟩
 rcases tabOf h with ⟨rfl, h1⟩ | h
 · cases h1; exact ⟨rfl, by kernel_rfl⟩
 cases h
theorem bn_max {u : Su} : Bn (st u) "max" (.builtin "max") := ⟨by kernel_rfl, fun zz => nofun, by decide +kernel, by decide +kernel, by kernel_rfl⟩
theorem bn_int {u : Su} : Bn (st u) "int" (.type "int") := ⟨by kernel_rfl, fun zz => nofun, by decide +kernel, by decide +kernel, by kernel_rfl⟩
abbrev GG (u : Su) (x : PySem.Str) (v : Value) : Prop := nsIn (st u).K mainGlobals x = some (some v)
variable {u : Su}
theorem bn_len : Bn (st u) "len" (.builtin "len") := ⟨by kernel_rfl, fun zz => nofun, by decide +kernel, by decide +kernel, by kernel_rfl⟩
theorem cl_MstBridge : Cls (st u) 14 := ⟨by kernel_rfl, by kernel_rfl, by kernel_rfl, by kernel_rfl, by kernel_rfl, freeOf 14 (by kernel_rfl)⟩
theorem cl_TreeTail : Cls (st u) 9 := ⟨by kernel_rfl, by kernel_rfl, by kernel_rfl, by kernel_rfl, by kernel_rfl, freeOf 9 (by kernel_rfl)⟩
theorem cl_PortRow : Cls (st u) 15 := ⟨by kernel_rfl, by kernel_rfl, by kernel_rfl, by kernel_rfl, by kernel_rfl, freeOf 15 (by kernel_rfl)⟩
theorem cl_TreeRow : Cls (st u) 8 := ⟨by kernel_rfl, by kernel_rfl, by kernel_rfl, by kernel_rfl, by kernel_rfl, freeOf 8 (by kernel_rfl)⟩
theorem cl_TreeSide : Cls (st u) 13 := ⟨by kernel_rfl, by kernel_rfl, by kernel_rfl, by kernel_rfl, by kernel_rfl, freeOf 13 (by kernel_rfl)⟩
theorem cl_TreePort : Cls (st u) 12 := ⟨by kernel_rfl, by kernel_rfl, by kernel_rfl, by kernel_rfl, by kernel_rfl, freeOf 12 (by kernel_rfl)⟩
theorem cl_TreeTelling : Cls (st u) 10 := ⟨by kernel_rfl, by kernel_rfl, by kernel_rfl, by kernel_rfl, by kernel_rfl, freeOf 10 (by kernel_rfl)⟩
theorem bn_bytes : Bn (st u) "bytes" (.type "bytes") := ⟨by kernel_rfl, fun zz => nofun, by decide +kernel, by decide +kernel, by kernel_rfl⟩
theorem gg_NAME_SIZE : GG u "NAME_SIZE" (.int 32 752) := by kernel_rfl
theorem gr_NAME_SIZE : Rv (st u) [] [] v_NAME_SIZE (.int 32 752) := .int _ _
theorem gg_MOST_INSTANCE : GG u "MOST_INSTANCE" (.int 4094 756) := by kernel_rfl
theorem gr_MOST_INSTANCE : Rv (st u) [] [] v_MOST_INSTANCE (.int 4094 756) := .int _ _
theorem cl_Region : Cls (st u) 7 := ⟨by kernel_rfl, by kernel_rfl, by kernel_rfl, by kernel_rfl, by kernel_rfl, freeOf 7 (by kernel_rfl)⟩
theorem bn_dict : Bn (st u) "dict" (.type "dict") := ⟨by kernel_rfl, fun zz => nofun, by decide +kernel, by decide +kernel, by kernel_rfl⟩
theorem bn_range : Bn (st u) "range" (.type "range") := ⟨by kernel_rfl, fun zz => nofun, by decide +kernel, by decide +kernel, by kernel_rfl⟩
theorem cl_PortSide : Cls (st u) 11 := ⟨by kernel_rfl, by kernel_rfl, by kernel_rfl, by kernel_rfl, by kernel_rfl, freeOf 11 (by kernel_rfl)⟩
theorem cl_Bpdu : Cls (st u) 6 := ⟨by kernel_rfl, by kernel_rfl, by kernel_rfl, by kernel_rfl, by kernel_rfl, freeOf 6 (by kernel_rfl)⟩
theorem cl_Times : Cls (st u) 5 := ⟨by kernel_rfl, by kernel_rfl, by kernel_rfl, by kernel_rfl, by kernel_rfl, freeOf 5 (by kernel_rfl)⟩
theorem bn_sorted : Bn (st u) "sorted" (.builtin "sorted") := ⟨by kernel_rfl, fun zz => nofun, by decide +kernel, by decide +kernel, by kernel_rfl⟩
theorem gg_MOST_TURNS : GG u "MOST_TURNS" (.int 400 1708) := by kernel_rfl
theorem gr_MOST_TURNS : Rv (st u) [] [] v_MOST_TURNS (.int 400 1708) := .int _ _
theorem gg_SPREADING_ROLES : GG u "SPREADING_ROLES" (.ref 951) := by kernel_rfl
theorem gr_SPREADING_ROLES : Rv (st u) [] [] v_SPREADING_ROLES (.ref 951) := .tup _ [.str (nm0 5) 1712, .str (nm0 7) 1713, .str (nm0 6) 1714] 951 0 (.inr (by kernel_rfl)) (.cons (.str 5 1712) (.cons (.str 7 1713) (.cons (.str 6 1714) .nil)))
theorem gg_TOLD_ROLES : GG u "TOLD_ROLES" (.ref 910) := by kernel_rfl
theorem gr_TOLD_ROLES : Rv (st u) [] [] v_TOLD_ROLES (.ref 910) := .dct _ [⟨hashStr u.w (nm0 5), .str (nm0 5) 1625, .str (nm0 5) 1626⟩, ⟨hashStr u.w (nm0 9), .str (nm0 9) 1627, .str (nm0 9) 1628⟩, ⟨hashStr u.w (nm0 8), .str (nm0 8) 1629, .str (nm0 9) 1630⟩, ⟨hashStr u.w (nm0 7), .str (nm0 7) 1631, .str (nm0 7) 1632⟩] 910 4 (.inr (by kernel_rfl)) (.cons (.str 5 1625 _) (.str 5 1626) (.cons (.str 9 1627 _) (.str 9 1628) (.cons (.str 8 1629 _) (.str 9 1630) (.cons (.str 7 1631 _) (.str 7 1632) .nil))))
theorem gg_TREE_ROLES : GG u "TREE_ROLES" (.ref 404) := by kernel_rfl
theorem gr_TREE_ROLES : Rv (st u) [] [] v_TREE_ROLES (.ref 404) := .tup _ [.str (nm0 6) 854, .str (nm0 9) 855, .str (nm0 5) 856, .str (nm0 7) 857] 404 0 (.inr (by kernel_rfl)) (.cons (.str 6 854) (.cons (.str 9 855) (.cons (.str 5 856) (.cons (.str 7 857) .nil))))
theorem bn_sum : Bn (st u) "sum" (.builtin "sum") := ⟨by kernel_rfl, fun zz => nofun, by decide +kernel, by decide +kernel, by kernel_rfl⟩
theorem gg_FLAG_BITS : GG u "FLAG_BITS" (.ref 471) := by kernel_rfl
theorem gr_FLAG_BITS : Rv (st u) [] [] v_FLAG_BITS (.ref 471) := .tup _ [.ref 466, .ref 467, .ref 468, .ref 469, .ref 470] 471 0 (.inr (by kernel_rfl)) (.cons (.tup _ [.str (nm0 11) 963, .int 1 964] 466 0 (.inr (by kernel_rfl)) (.cons (.str 11 963) (.cons (.int _ _) .nil))) (.cons (.tup _ [.str (nm0 12) 965, .int 2 966] 467 0 (.inr (by kernel_rfl)) (.cons (.str 12 965) (.cons (.int _ _) .nil))) (.cons (.tup _ [.str (nm0 13) 967, .int 16 968] 468 0 (.inr (by kernel_rfl)) (.cons (.str 13 967) (.cons (.int _ _) .nil))) (.cons (.tup _ [.str (nm0 14) 969, .int 32 970] 469 0 (.inr (by kernel_rfl)) (.cons (.str 14 969) (.cons (.int _ _) .nil))) (.cons (.tup _ [.str (nm0 15) 971, .int 64 972] 470 0 (.inr (by kernel_rfl)) (.cons (.str 15 971) (.cons (.int _ _) .nil))) .nil)))))
theorem bn_divmod : Bn (st u) "divmod" (.builtin "divmod") := ⟨by kernel_rfl, fun zz => nofun, by decide +kernel, by decide +kernel, by kernel_rfl⟩
theorem gg_HEAD_SIZE : GG u "HEAD_SIZE" (.int 64 850) := by kernel_rfl
theorem gr_HEAD_SIZE : Rv (st u) [] [] v_HEAD_SIZE (.int 64 850) := .int _ _
theorem gg_ROW_SIZE : GG u "ROW_SIZE" (.int 16 852) := by kernel_rfl
theorem gr_ROW_SIZE : Rv (st u) [] [] v_ROW_SIZE (.int 16 852) := .int _ _
theorem gg_REGION_SIZE : GG u "REGION_SIZE" (.int 51 754) := by kernel_rfl
theorem gr_REGION_SIZE : Rv (st u) [] [] v_REGION_SIZE (.int 51 754) := .int _ _
theorem gg_CHANGE_ROLES : GG u "CHANGE_ROLES" (.ref 616) := by kernel_rfl
theorem gr_CHANGE_ROLES : Rv (st u) [] [] v_CHANGE_ROLES (.ref 616) := .tup _ [.str (nm0 5) 1173, .str (nm0 7) 1174, .str (nm0 6) 1175] 616 0 (.inr (by kernel_rfl)) (.cons (.str 5 1173) (.cons (.str 7 1174) (.cons (.str 6 1175) .nil)))
theorem gg_HELLOS_KEPT : GG u "HELLOS_KEPT" (.int 3 1062) := by kernel_rfl
theorem gr_HELLOS_KEPT : Rv (st u) [] [] v_HELLOS_KEPT (.int 3 1062) := .int _ _
theorem gg_ROLES : GG u "ROLES" (.ref 99) := by kernel_rfl
theorem gr_ROLES : Rv (st u) [] [] v_ROLES (.ref 99) := .tup _ [.str (nm0 21) 312, .str (nm0 9) 313, .str (nm0 5) 314, .str (nm0 7) 315] 99 0 (.inr (by kernel_rfl)) (.cons (.str 21 312) (.cons (.str 9 313) (.cons (.str 5 314) (.cons (.str 7 315) .nil))))
theorem gg_CHANGE_SIZE : GG u "CHANGE_SIZE" (.int 4 323) := by kernel_rfl
theorem gr_CHANGE_SIZE : Rv (st u) [] [] v_CHANGE_SIZE (.int 4 323) := .int _ _
theorem gg_KINDS : GG u "KINDS" (.ref 98) := by kernel_rfl
theorem gr_KINDS : Rv (st u) [] [] v_KINDS (.ref 98) := .dct _ [⟨hashStr u.w (nm0 19), .str (nm0 19) 302, .int 0 303⟩, ⟨hashStr u.w (nm0 17), .str (nm0 17) 304, .int 2 305⟩, ⟨hashStr u.w (nm0 11), .str (nm0 11) 306, .int 128 307⟩] 98 3 (.inr (by kernel_rfl)) (.cons (.str 19 302 _) (.int _ _) (.cons (.str 17 304 _) (.int _ _) (.cons (.str 11 306 _) (.int _ _) .nil)))
theorem bn_min : Bn (st u) "min" (.builtin "min") := ⟨by kernel_rfl, fun zz => nofun, by decide +kernel, by decide +kernel, by kernel_rfl⟩
theorem gg_KNOWN : GG u "KNOWN" (.int 3 317) := by kernel_rfl
theorem gr_KNOWN : Rv (st u) [] [] v_KNOWN (.int 3 317) := .int _ _
theorem gg_CONFIG_SIZE : GG u "CONFIG_SIZE" (.int 35 319) := by kernel_rfl
theorem gr_CONFIG_SIZE : Rv (st u) [] [] v_CONFIG_SIZE (.int 35 319) := .int _ _
theorem gg_RAPID_SIZE : GG u "RAPID_SIZE" (.int 36 321) := by kernel_rfl
theorem gr_RAPID_SIZE : Rv (st u) [] [] v_RAPID_SIZE (.int 36 321) := .int _ _
end
end Mine
end
section
namespace Mine
open PySem PySem.W PySem.Calls PyProof.Rows
noncomputable section
abbrev Ck {α : Type} (P : α → Prop) : Type := Option {d : α // P d}
variable {α β γ δ : Type} {P : α → Prop} {Q : β → Prop} {R : γ → Prop} {T : δ → Prop}
def ck1 (a : Ck P) (f : α → δ) (h : ∀ x, P x → T (f x)) : Ck T := a.bind fun a => some ⟨f a.1, h _ a.2⟩
def ck2 (a : Ck P) (b : Ck Q) (f : α → β → δ) (h : ∀ x y, P x → Q y → T (f x y)) : Ck T := a.bind fun a => b.bind fun b => some ⟨f a.1 b.1, h _ _ a.2 b.2⟩
def ck3 (a : Ck P) (b : Ck Q) (c : Ck R) (f : α → β → γ → δ) (h : ∀ x y z, P x → Q y → R z → T (f x y z)) : Ck T := a.bind fun a => ck2 b c (f a.1) fun zz zz => h _ _ _ a.2
def ckI (p : Prop) [Decidable p] (a : p → Ck P) : Ck P := if h : p then a h else none
def ckB (b : Bool) (a : b = true → Ck P) : Ck P := ckI (b = true) a
def fnd {α : Type} [DecidableEq α] (x : α) (ns : List α) : Ck fun k : Nat => ns[k]? = some x :=
 List.rec none (fun a zz r => if h : a = x then some ⟨0, congrArg some h⟩ else ck1 r (· + 1) fun zz e => e) ns
theorem nF {p : Prop} (h : false = true) : p := nomatch h
def nStar (e : PySem.Expr) : Bool := e.ctorIdx != 22
theorem star1 {e : PySem.Expr} {es : List PySem.Expr} (h : nStar e = true) (env : PySem.Env) : starEach (e :: es) env = (false, eval e env) :: starEach es env := by
 cases e <;> first | rfl | exact nF h
theorem asg1 {e : PySem.Expr} {es : List PySem.Expr} (h : nStar e = true) (env : PySem.Env) : assignEach (e :: es) env = (false, fun v => assign e env v) :: assignEach es env := by
 cases e <;> first | rfl | exact nF h
theorem starAny {es : List PySem.Expr} (h : es.all nStar = true) (env : PySem.Env) (pos : Pos) : (backTo pos (starEach es env)).any (·.1) = false := by
 induction es with
 | nil => rfl
 | cons e es ih =>
  rw [List.all_cons, Bool.and_eq_true] at h
  rw [star1 h.1]
  exact ih h.2
theorem starAll {es : List PySem.Expr} (h : es.all nStar = true) (env : PySem.Env) (pos : Pos) : (backTo pos (starEach es env)).all (!·.1) = true := by
 induction es with
 | nil => rfl
 | cons e es ih =>
  rw [List.all_cons, Bool.and_eq_true] at h
  rw [star1 h.1]
  exact ih h.2
def nBase (e : PySem.Expr) : Bool := if h : e.ctorIdx = 16 then PySem.Expr.Call.elim (motive_1 := fun zz => Bool) e h fun f a k zz => f.ctorIdx != 23 || !a.isEmpty || !k.isEmpty else true
theorem base1 {o : PySem.Expr} {x : PySem.Str} {env : PySem.Env} {w : Sem Value} (h : nBase o = true) : attributeBase o x env w = w := by
 cases o with
 | Call f a k _ =>
  cases a with
  | nil => cases k with
   | nil => cases f <;> first | rfl | exact nF h
   | cons _ _ => cases f <;> rfl
  | cons _ _ => cases f <;> rfl
 | _ => rfl
theorem att1 {e : PySem.Expr} {x : PySem.Str} {pos : Pos} (h : nBase e = true) (env : PySem.Env) : eval (.Attribute e x pos) env = (do
  let o ← eval e env
  standAt pos.atName
  let r ← holding [o] (getAttr o x true)
  letTemporaryGo e o r
  pure r) := by
 have : eval (.Attribute e x pos) env = (do
  let o ← attributeBase e x env (eval e env)
  standAt pos.atName
  let r ← holding [o] (getAttr o x true)
  letTemporaryGo e o r
  pure r) := by rfl
 rw [this, base1 h]
theorem mc1 {o : PySem.Expr} {name : PySem.Str} {ap pos : Pos} {es : List PySem.Expr} (h1 : es.all nStar = true) (h2 : decide (es.length < 30) = true) (h3 : (ap.endLine == pos.line) = true) (h4 : nBase o = true) : MC o name ap es pos :=
 ⟨fun env => do return (← importBound o env).getD true, fun env => by
  have : eval (.Call (.Attribute o name ap) es [] pos) env = (do
   let ov ← attributeBase o name env (eval o env)
   standAt ap.atName
   methodCall o name ap pos env ov (es.length + 0) (backTo pos (starEach es env)) []) := by rfl
  have hf : methodCallForm (es.length + 0) (backTo pos (starEach es env)) [] = true := by
   simp only [methodCallForm, starAll h1, Nat.add_zero]
   simpa using h2
  rw [this, base1 h4]
  unfold methodCall
  rw [hf]
  simp only [methodCallPos, h3, calleeOf]
  simp⟩
def nPlain (e : PySem.Expr) : Bool := !([0, 3, 5, 15].contains e.ctorIdx)
theorem true1 {e : PySem.Expr} (h : nPlain e = true) (env : PySem.Env) (w : Sem Value) : isTrue e env w = (do let v ← w; standAt e.pos; holding [v] (PySem.truthy v)) := by
 cases e <;> first | rfl | exact nF h
def nSlice (e : PySem.Expr) : Bool := e.ctorIdx != 26
theorem sub1 {i : PySem.Expr} (h : nSlice i = true) (o k : Value) : subscripted i false o k = operate [o, k] (getItem o k) := by
 cases i <;> first | rfl | exact nF h
def nComp (e : PySem.Expr) : Bool := !([8, 9, 10].contains e.ctorIdx)
theorem sw1 {v : PySem.Expr} (h : nComp v = true) (t : Option PySem.Expr) (l : Nat) (env : PySem.Env) : swapsWith v t l env = pure false := by
 cases v <;> first | rfl | exact nF h
theorem sw2 {v o : PySem.Expr} {x : PySem.Str} {p : Pos} {l : Nat} (env : PySem.Env) : swapsWith v (some (.Attribute o x p)) l env = pure false := by
 cases v <;> rfl
theorem sw3 {v o i : PySem.Expr} {p : Pos} {l : Nat} (env : PySem.Env) : swapsWith v (some (.Subscript o i p)) l env = pure false := by
 cases v <;> rfl
theorem sw4 {v : PySem.Expr} {es : List PySem.Expr} {k : Nat} {p : Pos} {l : Nat} (env : PySem.Env) : swapsWith v (some (.Tuple es k p)) l env = pure false := by
 cases v <;> rfl
def nSet (e : PySem.Expr) : Bool := e.ctorIdx != 7
theorem fold1 {e : PySem.Expr} (h : nSet e = true) (env : PySem.Env) (x : Value) : foldedSetIterable e env x = pure x := by
 cases e <;> first | rfl | exact nF h
def asP {α : Type} (m : Sem α) : Option α := if h : m.ctorIdx = 0 then Sem.pure.elim (motive := fun zz => Option α) m h some else none
theorem asP_eq {α : Type} {m : Sem α} {a : α} (h : asP m = some a) : m = pure a := by
 by_cases q : m.ctorIdx = 0
 · revert h
   exact Sem.pure.elim (motive := fun m => asP m = some a → m = pure a) m q fun b h => congrArg Sem.pure (Option.some.inj h)
 · rw [asP, dif_neg q] at h
   cases h
def en (sc : Scope) : PySem.Env := ⟨sc, 0, 0, [], Str.empty, none, .none, none, 0⟩
theorem en_swaps {sc : Scope} {v : PySem.Expr} {t : Option PySem.Expr} {l : Nat} {b : Bool} (h : asP (swapsWith v t l (en sc)) = some b) (env : PySem.Env) (e : env.scope = sc) : swapsWith v t l env = pure b := by
 subst e
 exact asP_eq h
theorem en_stores {sc : Scope} {ts : List PySem.Expr} {v : PySem.Expr} {b : Option (List PySem.Str)} (h : asP (swappedStores ts v (en sc)) = some b) (env : PySem.Env) (e : env.scope = sc) : swappedStores ts v env = pure b := by
 subst e
 exact asP_eq h
-- one constructor's way in
def onName {C : PySem.Expr → Type} (e : PySem.Expr) (k : ∀ x p, Option (C (.Name x p))) : Option (C e) := if h : e.ctorIdx = 23 then PySem.Expr.Name.elim (motive_1 := fun e => Option (C e)) e h k else none
def onAttr {C : PySem.Expr → Type} (e : PySem.Expr) (k : ∀ o x p, Option (C (.Attribute o x p))) : Option (C e) := if h : e.ctorIdx = 20 then PySem.Expr.Attribute.elim (motive_1 := fun e => Option (C e)) e h k else none
def onCon {C : PySem.Expr → Type} (e : PySem.Expr) (k : ∀ c j p, Option (C (.Constant c j p))) : Option (C e) := if h : e.ctorIdx = 19 then PySem.Expr.Constant.elim (motive_1 := fun e => Option (C e)) e h k else none
def onUn {C : PySem.Expr → Type} (e : PySem.Expr) (k : ∀ o a p, Option (C (.UnaryOp o a p))) : Option (C e) := if h : e.ctorIdx = 3 then PySem.Expr.UnaryOp.elim (motive_1 := fun e => Option (C e)) e h k else none
def onBin {C : PySem.Expr → Type} (e : PySem.Expr) (k : ∀ l o r p, Option (C (.BinOp l o r p))) : Option (C e) := if h : e.ctorIdx = 2 then PySem.Expr.BinOp.elim (motive_1 := fun e => Option (C e)) e h k else none
def onCall {C : PySem.Expr → Type} (e : PySem.Expr) (k : ∀ f es ks p, Option (C (.Call f es ks p))) : Option (C e) := if h : e.ctorIdx = 16 then PySem.Expr.Call.elim (motive_1 := fun e => Option (C e)) e h k else none
def onTup {C : PySem.Expr → Type} (e : PySem.Expr) (k : ∀ es j p, Option (C (.Tuple es j p))) : Option (C e) := if h : e.ctorIdx = 25 then PySem.Expr.Tuple.elim (motive_1 := fun e => Option (C e)) e h k else none
def onList {C : PySem.Expr → Type} (e : PySem.Expr) (k : ∀ es p, Option (C (.List es p))) : Option (C e) := if h : e.ctorIdx = 24 then PySem.Expr.List.elim (motive_1 := fun e => Option (C e)) e h k else none
def onSub {C : PySem.Expr → Type} (e : PySem.Expr) (k : ∀ a i p, Option (C (.Subscript a i p))) : Option (C e) := if h : e.ctorIdx = 21 then PySem.Expr.Subscript.elim (motive_1 := fun e => Option (C e)) e h k else none
def onSlice {C : PySem.Expr → Type} (e : PySem.Expr) (k : ∀ a b c p, Option (C (.Slice a b c p))) : Option (C e) := if h : e.ctorIdx = 26 then PySem.Expr.Slice.elim (motive_1 := fun e => Option (C e)) e h k else none
def onLC {C : PySem.Expr → Type} (e : PySem.Expr) (k : ∀ a g s p, Option (C (.ListComp a g s p))) : Option (C e) := if h : e.ctorIdx = 8 then PySem.Expr.ListComp.elim (motive_1 := fun e => Option (C e)) e h k else none
def onDC {C : PySem.Expr → Type} (e : PySem.Expr) (k : ∀ a b g s p, Option (C (.DictComp a b g s p))) : Option (C e) := if h : e.ctorIdx = 10 then PySem.Expr.DictComp.elim (motive_1 := fun e => Option (C e)) e h k else none
def onBool {C : PySem.Expr → Type} (e : PySem.Expr) (k : ∀ o es p, Option (C (.BoolOp o es p))) : Option (C e) := if h : e.ctorIdx = 0 then PySem.Expr.BoolOp.elim (motive_1 := fun e => Option (C e)) e h k else none
def onCmp {C : PySem.Expr → Type} (e : PySem.Expr) (k : ∀ l o r p, Option (C (.Compare l o r p))) : Option (C e) := if h : e.ctorIdx = 15 then PySem.Expr.Compare.elim (motive_1 := fun e => Option (C e)) e h k else none
def onIf {C : PySem.Expr → Type} (e : PySem.Expr) (k : ∀ t a b p, Option (C (.IfExp t a b p))) : Option (C e) := if h : e.ctorIdx = 5 then PySem.Expr.IfExp.elim (motive_1 := fun e => Option (C e)) e h k else none
def onDict {C : PySem.Expr → Type} (e : PySem.Expr) (k : ∀ a b p, Option (C (.Dict a b p))) : Option (C e) := if h : e.ctorIdx = 6 then PySem.Expr.Dict.elim (motive_1 := fun e => Option (C e)) e h k else none
def onEq {α : Type} [DecidableEq α] {C : α → Type} (q o : α) (k : Option (C q)) : Option (C o) := if h : q = o then h ▸ k else none
def recL {α : Type} {C : List α → Type} (l : List α) (one : ∀ e, Option (C [e])) (more : ∀ e f es, Option (C (f :: es)) → Option (C (e :: f :: es))) : Option (C l) :=
 List.rec none (fun e es r => match es, r with
  | [], _ => one e
  | f :: es, r => more e f es r) l
def on3 {α : Type} {C : List α → Type} (l : List α) (k : ∀ a b c, Option (C [a, b, c])) : Option (C l) := match l with
 | [a, b, c] => k a b c
 | _ => none
def onNone {C : Const → Type} (c : Const) (k : Option (C .none)) : Option (C c) := match c with
 | .none => k
 | _ => none
def onInt {C : Const → Type} (c : Const) (k : ∀ i, Option (C (.int i))) : Option (C c) := match c with
 | .int i => k i
 | _ => none
def onStr {C : Const → Type} (c : Const) (k : ∀ i, Option (C (.str i))) : Option (C c) := match c with
 | .str i => k i
 | _ => none
def onNat {C : Int → Type} (i : Int) (k : ∀ n : Nat, Option (C (.ofNat n))) : Option (C i) := match i with
 | .ofNat n => k n
 | _ => none
def onG {C : Comprehension → Type} (g : Comprehension) (k : ∀ t i f, Option (C ⟨t, i, f, 0⟩)) : Option (C g) := match g with
 | ⟨t, i, f, .ofNat 0⟩ => k t i f
 | _ => none
def on0 {α : Type} {C : List α → Type} (l : List α) (k : Option (C [])) : Option (C l) := match l with
 | [] => k
 | _ => none
def on1 {α : Type} {C : List α → Type} (l : List α) (k : ∀ a, Option (C [a])) : Option (C l) := match l with
 | [a] => k a
 | _ => none
def on2 {α : Type} {C : List α → Type} (l : List α) (k : ∀ a b, Option (C [a, b])) : Option (C l) := match l with
 | [a, b] => k a b
 | _ => none
end
end Mine
end
section
namespace Mine
open PySem PySem.W PySem.Calls PyProof.Rows
noncomputable section
variable {u : Su} {n : Nat}
abbrev NS := List (Option PySem.Str)
abbrev CE (u : Su) (n : Nat) (sc : Scope) (ns : NS) : Type := ∀ x : PySem.Expr, Ck (SE (st u) n sc ns x)
abbrev CT (u : Su) (n : Nat) (sc : Scope) (ns : NS) : Type := ∀ x : PySem.Expr, Ck (ST (st u) n sc ns x)
abbrev CI (u : Su) (n : Nat) (sc : Scope) (ns : NS) : Type := ∀ x : PySem.Expr, Ck (SI (st u) n sc ns x)
abbrev C1s (u : Su) (n : Nat) (sc : Scope) (ns : NS) : Type := ∀ x : Stmt, Ck (S1 (st u) n sc ns x)
abbrev gI (sc : Scope) (x : PySem.Str) : Prop := sc.names.lookup x = some .globalImplicit
abbrev nD (x : PySem.Str) : Prop := (x == ("__debug__" : PySem.Str)) = false
-- the tables
theorem clsAll : ∀ c ∈ ([5, 6, 7, 8, 9, 10, 11, 12, 13, 14, 15] : List Nat), Cls (st u) c := all1 cl_Times (all1 cl_Bpdu (all1 cl_Region (all1 cl_TreeRow (all1 cl_TreeTail (all1 cl_TreeTelling (all1 cl_PortSide (all1 cl_TreePort (all1 cl_TreeSide (all1 cl_MstBridge (all1 cl_PortRow all0))))))))))
def plc (x : PySem.Str) : Nat := (anT.filterMap fun l => l.findIdx? (· == some x)).headD 0
def atc (x : PySem.Str) : {p : List Nat × Nat // ∀ c ∈ p.1, Cls (st u) c ∧ (st u).an c p.2 = some x} :=
 ⟨(([5, 6, 7, 8, 9, 10, 11, 12, 13, 14, 15] : List Nat).filter fun c => decide ((st u).an c (plc x) = some x), plc x), fun c h => ⟨clsAll c (List.mem_filter.mp h).1, of_decide_eq_true (List.mem_filter.mp h).2⟩⟩
abbrev GP (u : Su) (x : PySem.Str) (v : V) : Prop := ∃ cv, nsIn (st u).K mainGlobals x = some (some cv) ∧ Rv (st u) [] [] v cv
def glT : List {p : PySem.Str × V // GP u p.1 p.2} := [⟨("NAME_SIZE", v_NAME_SIZE), _, gg_NAME_SIZE, gr_NAME_SIZE⟩, ⟨("MOST_INSTANCE", v_MOST_INSTANCE), _, gg_MOST_INSTANCE, gr_MOST_INSTANCE⟩, ⟨("MOST_TURNS", v_MOST_TURNS), _, gg_MOST_TURNS, gr_MOST_TURNS⟩, ⟨("SPREADING_ROLES", v_SPREADING_ROLES), _, gg_SPREADING_ROLES, gr_SPREADING_ROLES⟩, ⟨("TOLD_ROLES", v_TOLD_ROLES), _, gg_TOLD_ROLES, gr_TOLD_ROLES⟩, ⟨("TREE_ROLES", v_TREE_ROLES), _, gg_TREE_ROLES, gr_TREE_ROLES⟩, ⟨("FLAG_BITS", v_FLAG_BITS), _, gg_FLAG_BITS, gr_FLAG_BITS⟩, ⟨("HEAD_SIZE", v_HEAD_SIZE), _, gg_HEAD_SIZE, gr_HEAD_SIZE⟩, ⟨("ROW_SIZE", v_ROW_SIZE), _, gg_ROW_SIZE, gr_ROW_SIZE⟩, ⟨("REGION_SIZE", v_REGION_SIZE), _, gg_REGION_SIZE, gr_REGION_SIZE⟩, ⟨("CHANGE_ROLES", v_CHANGE_ROLES), _, gg_CHANGE_ROLES, gr_CHANGE_ROLES⟩, ⟨("HELLOS_KEPT", v_HELLOS_KEPT), _, gg_HELLOS_KEPT, gr_HELLOS_KEPT⟩, ⟨("ROLES", v_ROLES), _, gg_ROLES, gr_ROLES⟩, ⟨("CHANGE_SIZE", v_CHANGE_SIZE), _, gg_CHANGE_SIZE, gr_CHANGE_SIZE⟩, ⟨("KINDS", v_KINDS), _, gg_KINDS, gr_KINDS⟩, ⟨("KNOWN", v_KNOWN), _, gg_KNOWN, gr_KNOWN⟩, ⟨("CONFIG_SIZE", v_CONFIG_SIZE), _, gg_CONFIG_SIZE, gr_CONFIG_SIZE⟩, ⟨("RAPID_SIZE", v_RAPID_SIZE), _, gg_RAPID_SIZE, gr_RAPID_SIZE⟩]
def tf {α : Type} {P : PySem.Str → α → Prop} (x : PySem.Str) (l : List {p : PySem.Str × α // P p.1 p.2}) : Ck fun v => P x v :=
 List.rec none (fun a zz r => if h : a.1.1 = x then some ⟨a.1.2, h ▸ a.2⟩ else r) l
abbrev B1P (u : Su) (n : Nat) (x : PySem.Str) (f : DE → DE) : Prop := ∀ sc ns p e pos a, SE (st u) n sc ns e a → gI sc x → C1 x p e pos → SE (st u) n sc ns (.Call (.Name x p) [e] [] pos) (f a)
def b1T : List {p : PySem.Str × (DE → DE) // B1P u n p.1 p.2} := [⟨("len", bLen strLen), fun zz zz zz zz zz zz a k c => E.len hLen bn_len a k c⟩, ⟨("int", bInt), fun zz zz zz zz zz zz a k c => E.int bn_int a k c⟩, ⟨("bytes", bBytes), fun zz zz zz zz zz zz a k c => E.bytes bn_bytes a k c⟩, ⟨("sum", bSum), fun zz zz zz zz zz zz a k c => E.sum bn_sum a k c⟩, ⟨("sorted", bSorted), fun zz zz zz zz zz zz a k c => E.sorted noSys bn_sorted a k c⟩, ⟨("dict", bDict), fun zz zz zz zz zz zz a k c => E.dict noSys bn_dict a k c⟩]
abbrev B2P (u : Su) (n : Nat) (x : PySem.Str) (f : DE → DE → DE) : Prop := ∀ sc ns p e g pos a b, SE (st u) n sc ns e a → SE (st u) n sc ns g b → gI sc x → C2 x p e g pos → SE (st u) n sc ns (.Call (.Name x p) [e, g] [] pos) (f a b)
def b2T : List {p : PySem.Str × (DE → DE → DE) // B2P u n p.1 p.2} := [⟨("max", bMax), fun zz zz zz zz zz zz zz zz a b k c => E.max bn_max a b k c⟩, ⟨("min", bMin), fun zz zz zz zz zz zz zz zz a b k c => E.min bn_min a b k c⟩, ⟨("divmod", bDivmod), fun zz zz zz zz zz zz zz zz a b k c => E.divmod bn_divmod a b k c⟩]
def heapAt (p : Pos) : Bool := [(364, 12), (737, 21), (743, 20), (895, 11), (932, 11), (936, 76), (961, 31), (967, 79)].any fun q => q.1 == p.line && q.2 == p.col
def dead (l : Nat) : Bool := [60, 72, 84, 97, 100, 115, 123, 126, 129, 131, 134, 136, 186, 215, 224, 226, 229, 287, 291, 420, 427, 431, 444, 449, 453, 458, 472, 477, 491, 507, 517, 525, 541, 566, 570, 577, 700, 730, 829, 913, 915, 918, 920, 922, 941, 944, 949, 951, 955, 958, 963, 976].contains l
theorem isR {o : Option (Option Value)} {a : Addr} (h : (match o with | some (some (.ref b)) => b == a | _ => false) = true) : o = some (some (.ref a)) := by
 split at h
 · rw [eq_of_beq h]
 · cases h
abbrev isRf (o : Option (Option Value)) (a : Addr) : Bool := match o with | some (some (.ref b)) => b == a | _ => false
def opf (o : CmpOp) : Option {c : Cmp // opOf c = o} := match o with
 | .Eq => some ⟨.eq, rfl⟩
 | .NotEq => some ⟨.ne, rfl⟩
 | .Lt => some ⟨.lt, rfl⟩
 | .LtE => some ⟨.le, rfl⟩
 | .Gt => some ⟨.gt, rfl⟩
 | .GtE => some ⟨.ge, rfl⟩
 | _ => none
section
variable {sc : Scope} {ns : NS}
-- constants
abbrev Xe {α : Type} {u : Su} {n : Nat} {sc : Scope} {ns : NS} (f : α → PySem.Expr) (x : α) : Type := {d // SE (st u) n sc ns (f x) d}
abbrev Xv {α : Type} {u : Su} {n : Nat} {sc : Scope} {ns : NS} (f : α → PySem.Expr) (x : α) : Type := {v // SE (st u) n sc ns (f x) (cst v)}
def cV (x : PySem.Expr) : Ck fun v => SE (st u) n sc ns x (cst v) :=
 (onCon (C := Xv id) x fun c zz zz => match c with
  | .none => some ⟨.none, SE.none⟩
  | .bool b => some ⟨.bool b, SE.bool⟩
  | .int i => some ⟨.int i, SE.int⟩
  | .str s => ck1 (fnd s nmT) .str fun j e => SE.str (show nm0 j = s by unfold nm0; rw [e])
  | .bytes b => some ⟨.bytes (b.map UInt8.toNat), SE.bytes rfl⟩
  | _ => none).or ((onUn (C := Xv id) x fun o a p => match o with
  | .USub => onCon (C := Xv fun a => .UnaryOp .USub a p) a fun c j q => onInt (C := Xv fun c => .UnaryOp .USub (.Constant c j q) p) c fun i => some ⟨.int (-i), SE.neg rfl⟩
  | _ => none).or (onBin (C := Xv id) x fun l o r p => match o with
  | .Pow => onCon (C := Xv fun l => .BinOp l .Pow r p) l fun c m q => onInt (C := Xv fun c => .BinOp (.Constant c m q) .Pow r p) c fun i => onCon (C := Xv fun r => .BinOp (.Constant (.int i) m q) .Pow r p) r fun d m' q' => onInt (C := Xv fun d => .BinOp (.Constant (.int i) m q) .Pow (.Constant d m' q') p) d fun j => if h : j ≥ 0 ∧ ¬(j == 0) = true ∧ ¬(i == 0 || i == 1) = true ∧ ¬(i == -1) = true ∧ ¬Builtin.Int.intTooBig (((Builtin.Int.intBits i : Nat) : Int) * j) = true then some ⟨.int (i ^ j.toNat), SE.pow h.1 h.2.1 h.2.2.1 h.2.2.2.1 h.2.2.2.2 rfl⟩ else none
  | _ => none))
def ces (ce : CE u n sc ns) (es : List PySem.Expr) : Ck fun ds => SEs (st u) n sc ns es ds ∧ es.all nStar = true :=
 List.rec (some ⟨[], SEs.nil, rfl⟩) (fun e zz r => ckB (nStar e) fun h => ck2 (ce e) r List.cons fun zz zz a b => ⟨SEs.cons a b.1 (star1 h), by simp [h, b.2]⟩) es
def cBin (ce : CE u n sc ns) (l : PySem.Expr) (o : Operator) (r : PySem.Expr) (pos : Pos) : Ck (SE (st u) n sc ns (.BinOp l o r pos)) := match o with
 | .Add => ck2 (ce l) (ce r) add fun zz zz => SE.add
 | .Sub => ck2 (ce l) (ce r) sub fun zz zz => SE.sub
 | .Mult => Option.or (onList (C := Xe fun l => .BinOp l .Mult r pos) l fun es p => onCon (C := Xe fun r => .BinOp (.List es p) .Mult r pos) r fun c j q => onInt (C := Xe fun c => .BinOp (.List es p) .Mult (.Constant c j q) pos) c fun i => onNat (C := Xe fun i => .BinOp (.List es p) .Mult (.Constant (.int i) j q) pos) i fun k => ckI (k ≤ 1000) fun h => ck1 (ce (.List es p)) (rep · k) fun zz a => SE.rep a h) (ck2 (ce l) (ce r) mul fun zz zz => SE.mul)
 | .FloorDiv => ck2 (ce l) (ce r) fdiv fun zz zz => SE.fdiv
 | .Mod => ck2 (ce l) (ce r) mod fun zz zz => SE.mod
 | .LShift => ck2 (ce l) (ce r) shl fun zz zz => SE.shl
 | .RShift => ck2 (ce l) (ce r) shr fun zz zz => SE.shr
 | .BitAnd => ck2 (ce l) (ce r) band fun zz zz => SE.band
 | .BitOr => ck2 (ce l) (ce r) bor fun zz zz => SE.bor
 | _ => none
def cAnd (ce : CE u n sc ns) (pos : Pos) (es : List PySem.Expr) : Ck (SE (st u) n sc ns (.BoolOp .And es pos)) := recL (C := Xe fun es => .BoolOp .And es pos) es (fun e => ck1 (ce e) id fun zz => SE.vand1) fun e zz zz r => ck2 (ce e) r vand fun zz zz => SE.vand
def cOr (ce : CE u n sc ns) (pos : Pos) (es : List PySem.Expr) : Ck (SE (st u) n sc ns (.BoolOp .Or es pos)) := recL (C := Xe fun es => .BoolOp .Or es pos) es (fun e => ck1 (ce e) id fun zz => SE.vor1) fun e zz zz r => ck2 (ce e) r vor fun zz zz => SE.vor
def cDs (ce : CE u n sc ns) (ks : List (Option PySem.Expr)) : ∀ vs, Ck fun p : List V × List DE => SDs (st u) n sc ns ks vs p.1 p.2 :=
 List.rec (fun vs => match vs with | [] => some ⟨([], []), SDs.nil⟩ | _ => none) (fun k zz r vs => match k, vs with
  | some k, v :: vs => ck3 (cV k) (ce v) (r vs) (fun a b c => (a :: c.1, b :: c.2)) fun zz zz zz => SDs.cons
  | _, _ => none) ks
def cO (ce : CE u n sc ns) (o : Option PySem.Expr) : Ck (SO (st u) n sc ns o) := match o with
 | none => some ⟨_, SO.no⟩
 | some e => ck1 (ce e) id fun zz => SO.yes
def onCN {C : PySem.Expr → Type} (e : PySem.Expr) (k : ∀ x p es kws pos, Option (C (.Call (.Name x p) es kws pos))) : Option (C e) := onCall e fun f es kws pos => onName (C := fun f => C (.Call f es kws pos)) f fun x p => k x p es kws pos
def onCA {C : PySem.Expr → Type} (e : PySem.Expr) (k : ∀ o x p es pos, Option (C (.Call (.Attribute o x p) es [] pos))) : Option (C e) := onCall e fun f es kws pos => onAttr (C := fun f => C (.Call f es kws pos)) f fun o x p => on0 (C := fun l => C (.Call (.Attribute o x p) es l pos)) kws (k o x p es pos)
theorem c1C {x : PySem.Str} {p pos : Pos} {e : PySem.Expr} (h : nStar e = true) : C1 x p e pos := ⟨starAny (by simp [h]), star1 h, fun zz => rfl⟩
theorem c2C {x : PySem.Str} {p pos : Pos} {e f : PySem.Expr} (h : nStar e = true) (g : nStar f = true) : C2 x p e f pos := ⟨starAny (by simp [h, g]), star1 h, star1 g, fun zz => rfl⟩
def cBi (ce : CE u n sc ns) : CE u n sc ns := fun e => onCN (C := Xe id) e fun x p es kws pos => on0 (C := Xe fun l => .Call (.Name x p) es l pos) kws (Option.or (on1 (C := Xe fun l => .Call (.Name x p) l [] pos) es fun e => ckB (nStar e) fun h => (tf x b1T).bind fun f => ckI (gI sc x) fun k => ck1 (ce e) f.1 fun zz a => f.2 _ _ _ _ _ _ a k (c1C h))
 (on2 (C := Xe fun l => .Call (.Name x p) l [] pos) es fun e g => ckB (nStar e) fun h => ckB (nStar g) fun h' => (tf x b2T).bind fun f => ckI (gI sc x) fun k => ck2 (ce e) (ce g) f.1 fun zz zz a b => f.2 _ _ _ _ _ _ _ _ a b k (c2C h h')))
theorem st1 {e : PySem.Expr} {es : List PySem.Expr} (h : (e :: es).all nStar = true) : nStar e = true := by
 rw [List.all_cons, Bool.and_eq_true] at h
 exact h.1
theorem st2 {e : PySem.Expr} {es : List PySem.Expr} (h : (e :: es).all nStar = true) : es.all nStar = true := by
 rw [List.all_cons, Bool.and_eq_true] at h
 exact h.2
def chM {α : Type} {P : α → Prop} {o : PySem.Expr} {x : PySem.Str} {p pos : Pos} {es : List PySem.Expr} (k : es.all nStar = true → MC o x p es pos → Ck P) : Ck P := ckB (es.all nStar) fun hs => ckB (decide (es.length < 30)) fun hl => ckB (p.endLine == pos.line) fun hp => ckB (nBase o) fun ho => k hs (mc1 hs hl hp ho)
def cM0 (ce : CE u n sc ns) : CE u n sc ns := fun e => onCA (C := Xe id) e fun o x p es pos =>
 if hx : x = "append" then on1 (C := Xe fun l => .Call (.Attribute o x p) l [] pos) es fun e => chM fun hs M => ck2 (ce o) (ce e) mAppend fun zz zz a b => M.elim fun zz m => SE.append hx a b (starAny hs) (star1 (st1 hs)) m
 else if hx : x = "index" then on1 (C := Xe fun l => .Call (.Attribute o x p) l [] pos) es fun e => chM fun hs M => ck2 (ce o) (ce e) mIndex fun zz zz a b => SE.index hx a b (starAny hs) (star1 (st1 hs)) M
 else if hx : x = "get" then on2 (C := Xe fun l => .Call (.Attribute o x p) l [] pos) es fun e g => chM fun hs M => ck3 (ce o) (ce e) (ce g) mGet2 fun zz zz zz a b c => SE.get2 noSys hx a b c (starAny hs) (star1 (st1 hs)) (star1 (st1 (st2 hs))) M
 else if hx : x = "isascii" then on0 (C := Xe fun l => .Call (.Attribute o x p) l [] pos) es (chM fun hs M => ck1 (ce o) (mStr strAsc) fun zz a => SE.isascii hx hAsc a (starAny hs) M)
 else if hx : x = "pop" then on1 (C := Xe fun l => .Call (.Attribute o x p) l [] pos) es fun e => onCon (C := Xe fun e => .Call (.Attribute o x p) [e] [] pos) e fun c j q => onInt (C := Xe fun c => .Call (.Attribute o x p) [.Constant c j q] [] pos) c fun i => onNat (C := Xe fun i => .Call (.Attribute o x p) [.Constant (.int i) j q] [] pos) i fun z => match z with
  | 0 => chM fun hs M => ck1 (ce o) mPop0 fun zz a => SE.pop hx a SE.int (starAny hs) (star1 (st1 hs)) M
  | _ => none
 else if hx : x = "join" then on1 (C := Xe fun l => .Call (.Attribute o x p) l [] pos) es fun e => onCon (C := Xe fun o => .Call (.Attribute o x p) [e] [] pos) o fun c j q => match c with
  | .bytes [] => chM fun hs M => ck1 (ce e) mJoin fun zz a => SE.join hx (SE.bytes rfl) a (starAny hs) (star1 (st1 hs)) M
  | _ => none
 else if hx : x = "encode" then on1 (C := Xe fun l => .Call (.Attribute o x p) l [] pos) es fun e => onCon (C := Xe fun e => .Call (.Attribute o x p) [e] [] pos) e fun c j q => onStr (C := Xe fun c => .Call (.Attribute o x p) [.Constant c j q] [] pos) c fun s => ckI ((st u).nm 1 = s) fun h1 => ckI (s = "ascii") fun h2 => chM fun hs M => ck1 (ce o) (mStr strEnc) fun zz a => SE.encode (j := 1) hx hEnc a (SE.str h1) (h1.trans h2) (starAny hs) (star1 (st1 hs)) M
 else if hx : x = "replace" then on2 (C := Xe fun l => .Call (.Attribute o x p) l [] pos) es fun e g => onCon (C := Xe fun e => .Call (.Attribute o x p) [e, g] [] pos) e fun c j q => onStr (C := Xe fun c => .Call (.Attribute o x p) [.Constant c j q, g] [] pos) c fun s => onCon (C := Xe fun g => .Call (.Attribute o x p) [.Constant (.str s) j q, g] [] pos) g fun d j' q' => onStr (C := Xe fun d => .Call (.Attribute o x p) [.Constant (.str s) j q, .Constant d j' q'] [] pos) d fun t => ckI ((st u).nm 8 = s) fun h1 => (fnd t nmT).bind fun j => chM fun hs M => ck1 (ce o) (mStr strRep) fun zz a => SE.replace (i := 8) (j := j.1) hx hRep a (SE.str h1) (SE.str (show nm0 j.1 = t by unfold nm0; rw [j.2])) (starAny hs) (star1 (st1 hs)) (star1 (st1 (st2 hs))) M
 else none
end
end
end Mine
end
section
namespace Mine
open PySem PySem.W PySem.Calls PyProof.Rows
noncomputable section
variable {u : Su} {n : Nat}
abbrev Rc (u : Su) (n : Nat) : Type := (∀ sc ns, CE u n sc ns) × (∀ sc ns, CT u n sc ns) × (∀ sc ns, CI u n sc ns) × (∀ sc ns, C1s u n sc ns)
abbrev Hk (u : Su) (n : Nat) : Type := ∀ sc ns, CE u n sc ns → CE u n sc ns
abbrev CN := List (PySem.Str × Nat)
section
variable {sc : Scope} {ns : NS}
abbrev Xs {α : Type} {u : Su} {n : Nat} {sc : Scope} {ns : NS} (f : α → Stmt) (x : α) : Type := {d // S1 (st u) n sc ns (f x) d}
abbrev Xt {α : Type} {u : Su} {n : Nat} {sc : Scope} {ns : NS} (f : α → PySem.Expr) (x : α) : Type := {d // ST (st u) n sc ns (f x) d}
abbrev Xi {α : Type} {u : Su} {n : Nat} {sc : Scope} {ns : NS} (f : α → PySem.Expr) (x : α) : Type := {d // SI (st u) n sc ns (f x) d}
def cIf (ct : CT u n sc ns) (ifs : List PySem.Expr) : Ck (STf (st u) n sc ns ifs) := Option.or (on0 (C := fun l => {d // STf (st u) n sc ns l d}) ifs (some ⟨_, STf.nil⟩)) (on1 (C := fun l => {d // STf (st u) n sc ns l d}) ifs fun c => ck1 (ct c) id fun zz => STf.one)
def lc1 (cn : CN) (R : Rc u n) (elt : PySem.Expr) (x : PySem.Str) (px : Pos) (iter : PySem.Expr) (ifs : List PySem.Expr) (scope : Scope) : Ck fun d => (∀ pos, SE (st u) n sc ns (.ListComp elt [⟨.Name x px, iter, ifs, 0⟩] scope pos) d) ∧ ∀ y py pos spos j, ns[j]? = some (some y) → sc.names.lookup y = some .local → (∀ env : PySem.Env, env.scope = sc → swapsWith (.ListComp elt [⟨.Name x px, iter, ifs, 0⟩] scope pos) (some (.Name y py)) spos.line env = pure true) → S1 (st u) n sc ns (.Assign [.Name y py] (.ListComp elt [⟨.Name x px, iter, ifs, 0⟩] scope pos) spos) (asg j d) :=
 (cn.lookup x).bind fun k => ckB (okCS scope sc [(k, x)]) fun hX => ckB (nSet iter) fun hs => ck3 (R.2.2.1 sc ns iter) (cIf (R.2.1 (relS scope sc) (cns ns scope.names [(k, x)])) ifs) (R.1 (relS scope sc) (cns ns scope.names [(k, x)]) elt) (lcomp k) fun zz zz zz hi ht he => ⟨fun zz => SE.lcomp (CS.of hX) hi ht he (fold1 hs), fun zz zz zz zz zz e hk hw => S1.asgL (CS.of hX) hi ht he e hk hw (fold1 hs)⟩
def dc2 (cn : CN) (R : Rc u n) (kx vx : PySem.Expr) (x x' : PySem.Str) (px px' tp : Pos) (yy : Nat) (iter : PySem.Expr) (ifs : List PySem.Expr) (scope : Scope) : Ck fun d => (∀ pos, SE (st u) n sc ns (.DictComp kx vx [⟨.Tuple [.Name x px, .Name x' px'] yy tp, iter, ifs, 0⟩] scope pos) d) ∧ ∀ y py pos spos j, ns[j]? = some (some y) → sc.names.lookup y = some .local → (∀ env : PySem.Env, env.scope = sc → swapsWith (.DictComp kx vx [⟨.Tuple [.Name x px, .Name x' px'] yy tp, iter, ifs, 0⟩] scope pos) (some (.Name y py)) spos.line env = pure true) → S1 (st u) n sc ns (.Assign [.Name y py] (.DictComp kx vx [⟨.Tuple [.Name x px, .Name x' px'] yy tp, iter, ifs, 0⟩] scope pos) spos) (asg j d) :=
 (cn.lookup x).bind fun k => (cn.lookup x').bind fun k' => ckB (okCS scope sc [(k, x), (k', x')]) fun hX => ckI (k ≠ k') fun hk => ckI (x ≠ x') fun hx => ckB (nSet iter) fun hs => (R.2.2.1 sc ns iter).bind fun i => ck3 (cIf (R.2.1 (relS scope sc) (cns ns scope.names [(k, x), (k', x')])) ifs) (R.1 (relS scope sc) (cns ns scope.names [(k, x), (k', x')]) kx) (R.1 (relS scope sc) (cns ns scope.names [(k, x), (k', x')]) vx) (dcomp2 k k' i.1) fun zz zz zz ht ha he => ⟨fun zz => SE.dcomp2 (CS.of hX) hk hx i.2 ht ha he (fold1 hs), fun zz zz zz zz zz e hl hw => S1.asgD2 (CS.of hX) hk hx i.2 ht ha he e hl hw (fold1 hs)⟩
def cLC (cn : CN) (R : Rc u n) (elt : PySem.Expr) (gs : List Comprehension) (scope : Scope) (pos : Pos) : Ck (SE (st u) n sc ns (.ListComp elt gs scope pos)) := on1 (C := Xe fun g => .ListComp elt g scope pos) gs fun g => onG (C := Xe fun g => .ListComp elt [g] scope pos) g fun t iter ifs => Option.or (onName (C := Xe fun t => .ListComp elt [⟨t, iter, ifs, 0⟩] scope pos) t fun x px => ck1 (lc1 cn R elt x px iter ifs scope) id fun zz h => h.1 _)
 (onTup (C := Xe fun t => .ListComp elt [⟨t, iter, ifs, 0⟩] scope pos) t fun es y tp => on2 (C := Xe fun es => .ListComp elt [⟨.Tuple es y tp, iter, ifs, 0⟩] scope pos) es fun a b => onName (C := Xe fun a => .ListComp elt [⟨.Tuple [a, b] y tp, iter, ifs, 0⟩] scope pos) a fun x px => onName (C := Xe fun b => .ListComp elt [⟨.Tuple [.Name x px, b] y tp, iter, ifs, 0⟩] scope pos) b fun x' px' => (cn.lookup x).bind fun k => (cn.lookup x').bind fun k' => ckB (okCS scope sc [(k, x), (k', x')]) fun hX => ckI (k ≠ k') fun hk => ckI (x ≠ x') fun hx => ckB (nSet iter) fun hs => ck3 (R.2.2.1 sc ns iter) (cIf (R.2.1 (relS scope sc) (cns ns scope.names [(k, x), (k', x')])) ifs) (R.1 (relS scope sc) (cns ns scope.names [(k, x), (k', x')]) elt) (lcomp2 k k') fun zz zz zz hi ht he => SE.lcomp2 (CS.of hX) hk hx hi ht he (fold1 hs))
def cDC (cn : CN) (R : Rc u n) (kx vx : PySem.Expr) (gs : List Comprehension) (scope : Scope) (pos : Pos) : Ck (SE (st u) n sc ns (.DictComp kx vx gs scope pos)) := on1 (C := Xe fun g => .DictComp kx vx g scope pos) gs fun g => onG (C := Xe fun g => .DictComp kx vx [g] scope pos) g fun t iter ifs => Option.or (onName (C := Xe fun t => .DictComp kx vx [⟨t, iter, ifs, 0⟩] scope pos) t fun x px => (cn.lookup x).bind fun k => ckB (okCS scope sc [(k, x)]) fun hX => ckB (nSet iter) fun hs => (R.2.2.1 sc ns iter).bind fun i => ck3 (cIf (R.2.1 (relS scope sc) (cns ns scope.names [(k, x)])) ifs) (R.1 (relS scope sc) (cns ns scope.names [(k, x)]) kx) (R.1 (relS scope sc) (cns ns scope.names [(k, x)]) vx) (dcomp k i.1) fun zz zz zz ht ha he => SE.dcomp (CS.of hX) i.2 ht ha he (fold1 hs))
 (onTup (C := Xe fun t => .DictComp kx vx [⟨t, iter, ifs, 0⟩] scope pos) t fun es y tp => on2 (C := Xe fun es => .DictComp kx vx [⟨.Tuple es y tp, iter, ifs, 0⟩] scope pos) es fun a b => onName (C := Xe fun a => .DictComp kx vx [⟨.Tuple [a, b] y tp, iter, ifs, 0⟩] scope pos) a fun x px => onName (C := Xe fun b => .DictComp kx vx [⟨.Tuple [.Name x px, b] y tp, iter, ifs, 0⟩] scope pos) b fun x' px' => ck1 (dc2 cn R kx vx x x' px px' tp y iter ifs scope) id fun zz h => h.1 _)
end
def cE (H : List (Hk u n)) (cn : CN) (R : Rc u n) (sc : Scope) (ns : NS) : CE u n sc ns := fun e =>
 have ce : CE u n sc ns := R.1 sc ns
 Option.or (ck1 (cV e) cst fun zz h => h) <| Option.or (onName (C := Xe id) e fun x zz => Option.or (ck1 (fnd (some x) ns) loc fun zz h => SE.loc h) (ckI (gI sc x) fun hk => ckI (nD x) fun hd => ck1 (tf x glT) cst fun zz h => h.elim fun zz h => SE.glob h.1 h.2 hk hd))
 <| Option.or (onAttr (C := Xe id) e fun a x zz => ckB (nBase a) fun h => ck1 (ce a) (att (atc (u := u) x).1.1 (atc (u := u) x).1.2) fun zz d => SE.att d (atc x).2 (att1 h))
 <| Option.or (onCall (C := Xe id) e fun f es kws pos => Option.or (cBi ce (.Call f es kws pos)) <| Option.or (cM0 ce (.Call f es kws pos)) <| Option.or (H.foldr (fun h r => Option.or (h sc ns ce (.Call f es kws pos)) r) none) (some ⟨badE 104, SE.bad⟩))
 <| Option.or (onBin (C := Xe id) e fun l o r pos => cBin ce l o r pos)
 <| Option.or (onUn (C := Xe id) e fun o a p => onEq (C := Xe fun o => .UnaryOp o a p) .Not o (ck1 (ce a) (fun d => vT (tnot (tE d))) fun zz => SE.not))
 <| Option.or (onCmp (C := Xe id) e fun l ops rs pos => on1 (C := Xe fun ops => .Compare l ops rs pos) ops fun o => on1 (C := Xe fun rs => .Compare l [o] rs pos) rs fun r => Option.or ((opf o).bind fun c => ckI (behindInMarks o r = false) fun hm => ck2 (ce l) (ce r) (fun a b => vT (tcmp c.1 a b)) fun zz zz a b => SE.cmp a b c.2 hm) (onEq (C := Xe fun o => .Compare l [o] [r] pos) .IsNot o (onCon (C := Xe fun r => .Compare l [.IsNot] [r] pos) r fun c j q => onNone (C := Xe fun c => .Compare l [.IsNot] [.Constant c j q] pos) c (ck1 (ce l) (fun d => vT (tnot (tisN d))) fun zz => SE.isntN))))
 <| Option.or (onBool (C := Xe id) e fun o es pos => match o with
  | .And => cAnd ce pos es
  | .Or => cOr ce pos es)
 <| Option.or (onIf (C := Xe id) e fun t a b zz => ck3 (R.2.1 sc ns t) (ce a) (ce b) ife fun zz zz zz => SE.ife)
 <| Option.or (onTup (C := Xe id) e fun es zz zz => (ces ce es).bind fun ds => ckI (ds.1.length ≤ 1000) fun h => some ⟨tupE ds.1, SE.tup ds.2.1 h⟩)
 <| Option.or (onList (C := Xe id) e fun es pos => (ces ce es).bind fun ds => ckI (ds.1.length ≤ 1000) fun h => if heapAt pos then some ⟨lstE ds.1, SE.lstE ds.2.1 h⟩ else some ⟨lstV ds.1, SE.lst ds.2.1 h⟩)
 <| Option.or (onDict (C := Xe id) e fun ks vs pos => match ks, vs with
  | [], [] => if heapAt pos then some ⟨_, SE.dctE0⟩ else some ⟨_, SE.dctV0⟩
  | k :: ks, vs => (cDs ce (k :: ks) vs).bind fun p => ckI ((k :: ks).length ≤ 15) fun h => if heapAt pos then some ⟨_, SE.dctE p.2 (List.cons_ne_nil _ _) h⟩ else some ⟨_, SE.dctV p.2 (List.cons_ne_nil _ _) h⟩
  | _, _ => none)
 <| Option.or (onSub (C := Xe id) e fun a i p => Option.or (onSlice (C := Xe fun i => .Subscript a i p) i fun lo hi s q => match s with
  | none => ck3 (ce a) (cO ce lo) (cO ce hi) slc fun zz zz zz => SE.slc
  | some _ => none) (ckB (nSlice i) fun h => ck2 (ce a) (ce i) idx fun zz zz a b => SE.idx a b (sub1 h)))
 <| Option.or (onLC (C := Xe id) e fun a gs scope pos => cLC cn R a gs scope pos)
 (onDC (C := Xe id) e fun a b gs scope pos => cDC cn R a b gs scope pos)
def m1 {sc : Scope} {ns : NS} (b : PySem.Expr) : Option {_d : Unit // SE (st u) n sc ns b (cst (.int (-1)))} := onUn (C := fun b => {_d : Unit // SE (st u) n sc ns b (cst (.int (-1)))}) b fun o a p => onEq (C := fun o => {_d : Unit // SE (st u) n sc ns (.UnaryOp o a p) (cst (.int (-1)))}) .USub o (onCon (C := fun a => {_d : Unit // SE (st u) n sc ns (.UnaryOp .USub a p) (cst (.int (-1)))}) a fun c j q => onEq (C := fun c => {_d : Unit // SE (st u) n sc ns (.UnaryOp .USub (.Constant c j q) p) (cst (.int (-1)))}) (.int 1) c (some ⟨(), SE.neg rfl⟩))
def cI (R : Rc u n) (sc : Scope) (ns : NS) : CI u n sc ns := fun e =>
 have ce : CE u n sc ns := R.1 sc ns
 Option.or (onCN (C := Xi id) e fun x q es kws pos => ckI (x = "range") fun hx => ckI (gI sc x) fun hk => on0 (C := Xi fun l => .Call (.Name x q) es l pos) kws (Option.or (on1 (C := Xi fun l => .Call (.Name x q) l [] pos) es fun a => ckB (nStar a) fun h => ck1 (ce a) itR1 fun zz d => I.r1 (hx ▸ bn_range) d hk (c1C h))
 <| Option.or (on2 (C := Xi fun l => .Call (.Name x q) l [] pos) es fun a b => ckB (nStar a) fun h => ckB (nStar b) fun g => ck2 (ce a) (ce b) itR2 fun zz zz d d' => I.r2 (hx ▸ bn_range) d d' hk (c2C h g))
 (on3 (C := Xi fun l => .Call (.Name x q) l [] pos) es fun a b c => ckB (nStar a) fun h => ckB (nStar b) fun h2 => ckB (nStar c) fun h3 => (m1 b).bind fun M => (m1 c).bind fun N => ck1 (ce a) itDown fun zz d => I.down (hx ▸ bn_range) d M.2 N.2 hk (starAny (by simp [h, h2, h3])) (star1 h) (star1 h2) (star1 h3) fun zz => rfl)))
 <| Option.or (onCA (C := Xi id) e fun o x p es pos => ckI (x = "values") fun hx => on0 (C := Xi fun l => .Call (.Attribute o x p) l [] pos) es (chM fun hs M => ck1 (ce o) itVals fun zz d => SI.vals noSys hx d (starAny hs) M)) (ck1 (ce e) itE fun zz => SI.E noSys)
def cT (R : Rc u n) (sc : Scope) (ns : NS) : CT u n sc ns := fun e =>
 have ce : CE u n sc ns := R.1 sc ns
 have ct : CT u n sc ns := R.2.1 sc ns
 Option.or (onUn (C := Xt id) e fun o a p => onEq (C := Xt fun o => .UnaryOp o a p) .Not o (ck1 (ct a) tnot fun zz => ST.not))
 <| Option.or (onBool (C := Xt id) e fun o es pos => match o with
  | .And => ck1 (recL (C := fun es => {d // STs (st u) n sc ns .And es d}) es (fun e => ck1 (ct e) id fun zz => STs.and1) fun e zz zz r => ck2 (ct e) r tand fun zz zz => STs.and) id fun zz => ST.ops
  | .Or => ck1 (recL (C := fun es => {d // STs (st u) n sc ns .Or es d}) es (fun e => ck1 (ct e) id fun zz => STs.or1) fun e zz zz r => ck2 (ct e) r tor fun zz zz => STs.or) id fun zz => ST.ops)
 <| Option.or (onCmp (C := Xt id) e fun l ops rs pos => Option.or (on1 (C := Xt fun ops => .Compare l ops rs pos) ops fun o => on1 (C := Xt fun rs => .Compare l [o] rs pos) rs fun r => Option.or ((opf o).bind fun c => ckI (behindInMarks o r = false) fun hm => ck2 (ce l) (ce r) (tcmp c.1) fun zz zz a b => ST.cmp a b c.2 hm)
 <| Option.or (onEq (C := Xt fun o => .Compare l [o] [r] pos) .In o (ckI (behindInMarks .In r = false) fun hm => Option.or (onCon (C := Xt fun l => .Compare l [.In] [r] pos) l fun c j q => onEq (C := Xt fun c => .Compare (.Constant c j q) [.In] [r] pos) (.str ⟨⟨[0]⟩⟩) c (ck1 (ce r) (fun d => tE (mStr strNul d)) fun zz d => ST.nul hNul d hm)) (ck2 (ce l) (ce r) tin fun zz zz a b => ST.in noSys a b hm)))
 (onCon (C := Xt fun r => .Compare l [o] [r] pos) r fun c j q => onNone (C := Xt fun c => .Compare l [o] [.Constant c j q] pos) c (Option.or (onEq (C := Xt fun o => .Compare l [o] [.Constant .none j q] pos) .Is o (ck1 (ce l) tisN fun zz => ST.isN)) (onEq (C := Xt fun o => .Compare l [o] [.Constant .none j q] pos) .IsNot o (ck1 (ce l) (fun d => tnot (tisN d)) fun zz => ST.isntN)))))
 (on2 (C := Xt fun ops => .Compare l ops rs pos) ops fun o o' => on2 (C := Xt fun rs => .Compare l [o, o'] rs pos) rs fun r r' => (opf o).bind fun c => (opf o').bind fun c' => ckI (lastMarks [o, o'] [r, r'] = false) fun hm => ck3 (ce l) (ce r) (ce r') (tcmp3 c.1 c'.1) fun zz zz zz a b d => ST.cmp3 a b d c.2 c'.2 hm))
 (ckB (nPlain e) fun h => ck1 (ce e) tE fun zz d => ST.E d (true1 h))
def optP {α : Type} (o : Option α) : Ck fun x => o = some x := match o with
 | some x => some ⟨x, rfl⟩
 | none => none
section
variable {sc : Scope} {ns : NS}
abbrev loC (sc : Scope) (x : PySem.Str) : Prop := sc.names.lookup x = some .local ∨ sc.names.lookup x = some .cell
def cTs (ce : CE u n sc ns) (ts : List PySem.Expr) : Ck fun as => TAs (st u) n sc ns ts as ∧ ∀ a ∈ as, Nx a :=
 List.rec (some ⟨[], TAs.nil, nx0⟩) (fun t zz r => ckB (nStar t) fun h => ck2 (Option.or (onName (C := fun t => {a // TA (st u) n sc ns t a ∧ Nx a}) t fun x zz => (fnd (some x) ns).bind fun k => ckI (loC sc x) fun hk => some ⟨aN k.1, TA.name k.2 hk, aN_next _⟩)
  (onAttr (C := fun t => {a // TA (st u) n sc ns t a ∧ Nx a}) t fun o x zz => ck1 (ce o) (aA (atc (u := u) x).1.1 (atc (u := u) x).1.2) fun zz d => ⟨TA.attr d (atc x).2, aA_next _ _ _⟩)) r List.cons fun zz zz a b => ⟨TAs.cons a.1 b.1 a.2 (asg1 h), nxc a.2 b.2⟩) ts
def cAs (cn : CN) (R : Rc u n) (t v : PySem.Expr) (pos : Pos) : Ck (S1 (st u) n sc ns (.Assign [t] v pos)) :=
 have ce : CE u n sc ns := R.1 sc ns
 Option.or (onName (C := Xs fun t => .Assign [t] v pos) t fun y py => (fnd (some y) ns).bind fun j => Option.or (onLC (C := Xs fun v => .Assign [.Name y py] v pos) v fun elt gs scope p => on1 (C := Xs fun gs => .Assign [.Name y py] (.ListComp elt gs scope p) pos) gs fun g => onG (C := Xs fun g => .Assign [.Name y py] (.ListComp elt [g] scope p) pos) g fun t iter ifs => onName (C := Xs fun t => .Assign [.Name y py] (.ListComp elt [⟨t, iter, ifs, 0⟩] scope p) pos) t fun x px => ckI (sc.names.lookup y = some .local) fun hk => ckI (asP (swapsWith (.ListComp elt [⟨.Name x px, iter, ifs, 0⟩] scope p) (some (.Name y py)) pos.line (en sc)) = some true) fun hw => ck1 (lc1 cn R elt x px iter ifs scope) (asg j.1) fun zz h => h.2 _ _ _ _ _ j.2 hk (en_swaps hw))
 <| Option.or (onDC (C := Xs fun v => .Assign [.Name y py] v pos) v fun kx vx gs scope p => on1 (C := Xs fun gs => .Assign [.Name y py] (.DictComp kx vx gs scope p) pos) gs fun g => onG (C := Xs fun g => .Assign [.Name y py] (.DictComp kx vx [g] scope p) pos) g fun t iter ifs => onTup (C := Xs fun t => .Assign [.Name y py] (.DictComp kx vx [⟨t, iter, ifs, 0⟩] scope p) pos) t fun es yy tp => on2 (C := Xs fun es => .Assign [.Name y py] (.DictComp kx vx [⟨.Tuple es yy tp, iter, ifs, 0⟩] scope p) pos) es fun a b => onName (C := Xs fun a => .Assign [.Name y py] (.DictComp kx vx [⟨.Tuple [a, b] yy tp, iter, ifs, 0⟩] scope p) pos) a fun x px => onName (C := Xs fun b => .Assign [.Name y py] (.DictComp kx vx [⟨.Tuple [.Name x px, b] yy tp, iter, ifs, 0⟩] scope p) pos) b fun x' px' => ckI (sc.names.lookup y = some .local) fun hk => ckI (asP (swapsWith (.DictComp kx vx [⟨.Tuple [.Name x px, .Name x' px'] yy tp, iter, ifs, 0⟩] scope p) (some (.Name y py)) pos.line (en sc)) = some true) fun hw => ck1 (dc2 cn R kx vx x x' px px' tp yy iter ifs scope) (asg j.1) fun zz h => h.2 _ _ _ _ _ j.2 hk (en_swaps hw))
 (ckB (nComp v) fun h => ckI (loC sc y) fun hk => ck1 (ce v) (asg j.1) fun zz d => S1.asg d j.2 hk (sw1 h _ _)))
 <| Option.or (onAttr (C := Xs fun t => .Assign [t] v pos) t fun o x zz => ck2 (ce o) (ce v) (seta (atc (u := u) x).1.1 (atc (u := u) x).1.2) fun zz zz a b => S1.seta a b (atc x).2 sw2)
 <| Option.or (onSub (C := Xs fun t => .Assign [t] v pos) t fun o i zz => ck3 (ce o) (ce i) (ce v) sets fun zz zz zz a b c => S1.sets a b c sw3)
 (onTup (C := Xs fun t => .Assign [t] v pos) t fun es k p => (optP (asP (swappedStores [.Tuple es k p] v (en sc)))).bind fun q => match q with
  | ⟨some xs, h⟩ => ckB (((xs.map fun x => ns.idxOf (some x)).zip xs).all fun p => ns[p.1]? == some (some p.2)) fun hn => ckI (∀ x ∈ xs, sc.names.lookup x = some .local) fun hl => ckI xs.Nodup fun hd => ck1 (ce v) (asgT ((xs.map fun x => ns.idxOf (some x)).map aN)) fun zz d => S1.asgTs d (by simp) (hnsOf hn) hl hd (en_stores h) sw4
  | ⟨none, h⟩ => (cTs ce es).bind fun as => ck1 (ce v) (asgT as.1) fun zz d => S1.asgT d as.2.1 as.2.2 (en_stores h) sw4)
def css (c1 : C1s u n sc ns) (l : List Stmt) : Ck (SS (st u) n sc ns l) := match l with
 | [] => some ⟨skip, SS.nil⟩
 | t :: ts => if dead t.pos.line then some ⟨badS 103, SS.bad⟩ else recL (C := fun l => {d // SS (st u) n sc ns l d}) (t :: ts) (fun t => ck1 (c1 t) id fun zz => SS.one) fun t zz zz r => ck2 (c1 t) r sq fun zz zz => SS.cons
end
def cS (cn : CN) (R : Rc u n) (sc : Scope) (ns : NS) : C1s u n sc ns := fun s =>
 have ce : CE u n sc ns := R.1 sc ns
 have c1 : C1s u n sc ns := R.2.2.2 sc ns
 if dead s.pos.line then some ⟨badS 103, S1.bad⟩ else match s with
 | .Assign ts v pos => on1 (C := Xs fun ts => .Assign ts v pos) ts fun t => cAs cn R t v pos
 | .Expr e _ => ckB (nComp e) fun h => ck1 (ce e) exq fun zz d => S1.exq d inter (sw1 h _ _)
 | .If t a b _ => ck3 (R.2.1 sc ns t) (css c1 a) (css c1 b) iff fun zz zz zz => S1.iff
 | .For t iter body els pos => onName (C := Xs fun t => .For t iter body els pos) t fun x p => on0 (C := Xs fun els => .For (.Name x p) iter body els pos) els ((fnd (some x) ns).bind fun k => ckI (loC sc x) fun hk => ckB (nSet iter) fun hs => ck2 (R.2.2.1 sc ns iter) (css c1 body) (forS (aN k.1)) fun zz zz a b => S1.forS a b k.2 hk (fold1 hs))
 | .Return e _ => (match e with
  | some e => ck1 (ce e) retS fun zz => S1.ret
  | none => some ⟨_, S1.retN⟩)
 | .Continue _ => some ⟨_, S1.cont⟩
 | .Try body hs els fin _ => (match hs, els, fin with
  | _ :: _, [], [] => ck1 (css c1 body) id fun zz => S1.try_
  | _, _, _ => none)
 | _ => none
def cmp (H : List (Hk u n)) (cn : CN) (k : Nat) : Rc u n :=
 Nat.rec ⟨fun zz zz zz => none, fun zz zz zz => none, fun zz zz zz => none, fun zz zz zz => none⟩ (fun zz R => ⟨cE H cn R, cT R, cI R, cS cn R⟩) k
-- the calls' hooks
def hFn {m a np : Nat} {F : DF} (h : Fp (st u) m a F np) : Hk u n := fun sc ns ce e => onCN (C := Xe id) e fun x p es kws pos => on0 (C := Xe fun l => .Call (.Name x p) es l pos) kws (ckB (isRf (nsIn (st u).K mainGlobals x) a) fun hx => ckI (m ≤ n) fun hm => ckI (gI sc x) fun hk => ckI (nD x) fun hd => (ces ce es).bind fun ds => ckI (np = ds.1.length) fun hl => some ⟨cal F ds.1, SE.cal (hl ▸ h.up hm) ds.2.1 (isR hx) hk hd (starAny ds.2.2) fun zz => rfl⟩)
abbrev KC (u : Su) (c f : Nat) : Prop := keepIn (st u).K (.ref ((st u).cls c)) = true ∧ makesIn (st u).K ((st u).cls c) = true ∧ findIn (st u).K (.ref ((st u).cls c)) "__init__" = some (some (.ref f)) ∧ typeIn (st u).K (.ref f) = some (.type "function")
theorem KC.mk {c f m np : Nat} {F : DF} (k : KC u c f) (h : Fp (st u) m f F np) (hm : m ≤ n) : Mk (st u) n c F := ⟨k.1, k.2.1, f, k.2.2.1, k.2.2.2, Fn.up h.fn hm⟩
theorem mbOf {c f0 m np : Nat} {F : DF} (e : findIn (st u).K (.ref ((st u).cls c)) "__init__" = some (some (.ref f0))) (h : Fp (st u) m f0 F (np + 1)) (f x : Addr) (cs : List Value) (hf : findIn (st u).K (.ref ((st u).cls c)) "__init__" = some (some (.ref f))) (hl : cs.length = np) : Binds (st u) f ⟨.ref x :: cs, []⟩ (.ref x :: cs) := by
 rw [e] at hf; cases hf
 exact h.binds _ (by simp [hl])
def hMk {m f np c : Nat} {F : DF} (mm : Nat) (k : KC u c f) (h : Fp (st u) m f F (np + 1)) : Hk u (n + 1) := fun sc ns ce e => onCN (C := Xe id) e fun x p es kws pos => on0 (C := Xe fun l => .Call (.Name x p) es l pos) kws (ckB (isRf (nsIn (st u).K mainGlobals x) ((st u).cls c)) fun hx => ckI (m ≤ n) fun hm => ckI (gI sc x) fun hk => ckI (nD x) fun hd => (ces ce es).bind fun ds => ckI (np = ds.1.length) fun hl => some ⟨mk c mm F ds.1, SE.mk (k.mk h hm) (hl ▸ mbOf k.2.2.1 h) ds.2.1 (isR hx) hk hd (starAny ds.2.2) fun zz => rfl⟩)
def cKs {sc : Scope} {ns : NS} (ce : CE u n sc ns) (ks : List Keyword) : Ck fun p : List PySem.Str × List DE => SK (st u) n sc ns ks p.1 p.2 :=
 List.rec (some ⟨([], []), SK.nil⟩) (fun k zz r => match k with
  | ⟨some x, e, _⟩ => ck2 (ce e) r (fun a b => (x :: b.1, a :: b.2)) fun zz zz => SK.cons
  | _ => none) ks
def hMd {m f np c l1 l2 : Nat} {F : DF} (mm : Nat) {names : List PySem.Str} {pat : List (Option V)} {patC : List (Option Value)} (k : KC u c f) (h : Fp (st u) m f F np) (hp : Rpat (st u) pat patC)
 (hb : ∀ f x (cs ks : List Value), findIn (st u).K (.ref ((st u).cls c)) "__init__" = some (some (.ref f)) → cs.length = l1 → ks.length = l2 → Binds (st u) f ⟨.ref x :: cs, names.zip ks⟩ (.ref x :: fill id patC (cs ++ ks))) : Hk u (n + 1) := fun sc ns ce e => onCN (C := Xe id) e fun x p es kws pos => match es with
 | e0 :: es => ckB (isRf (nsIn (st u).K mainGlobals x) ((st u).cls c)) fun hx => ckI (m ≤ n) fun hm => ckI (gI sc x) fun hk => ckI (nD x) fun hd => (ces ce (e0 :: es)).bind fun ds => (cKs ce kws).bind fun ks => ckI (names = ks.1.1) fun hn => ckI (l1 = ds.1.length) fun hl1 => ckI (l2 = ks.1.2.length) fun hl2 => ckI (holes pat = (ds.1 ++ ks.1.2).length) fun hh => ckB (nStar e0) fun hs => some ⟨mk c mm F (fill cst pat (ds.1 ++ ks.1.2)), SE.mkD (k.mk h hm) hp hh (by subst hn; subst hl1; subst hl2; exact hb) ds.2.1 ks.2 (isR hx) hk hd (starAny ds.2.2) (star1 hs) fun zz => rfl⟩
 | _ => none
def mth {m a np c : Nat} {F : DF} (hc : Cls (st u) c) (h : Fp (st u) m a F np) (x : PySem.Str) : Ck fun zz : Unit => Meth (st u) n x np c F :=
 ckI (findIn (st u).K (.ref ((st u).cls c)) x |> fun o => isRf o a = true) fun hx => ckI (m ≤ n) fun hm => ckB (isFn (st u).K (.ref a)) fun hf => ckB ((anT.getD c []).all fun o => !(o == some x)) fun ho => some ⟨(), hc, ownOf c x ho, a, isR hx, hf, h.up hm⟩
def hMe {m a np c : Nat} {F : DF} (hc : Cls (st u) c) (h : Fp (st u) m a F np) : Hk u n := fun sc ns ce e => onCA (C := Xe id) e fun o x p es pos => (mth hc h x).bind fun M => ckB (decide (es.length < 30)) fun hl => ckB (p.endLine == pos.line) fun hp => ckB (nBase o) fun ho => (ces ce es).bind fun ds => ckI (np = ds.1.length + 1) fun hn => ck1 (ce o) (fun d => mcal [(c, F)] d ds.1) fun zz d => (mc1 ds.2.2 hl hp ho).elim fun zz e => SE.mcal1 (hn ▸ M.2) d ds.2.1 (starAny ds.2.2) e
def hMe2 {m a np c m' a' c' : Nat} {F F' : DF} (hc : Cls (st u) c) (h : Fp (st u) m a F np) (hc' : Cls (st u) c') (h' : Fp (st u) m' a' F' np) : Hk u n := fun sc ns ce e => onCA (C := Xe id) e fun o x p es pos => (mth hc h x).bind fun M => (mth hc' h' x).bind fun M' => ckB (decide (es.length < 30)) fun hl => ckB (p.endLine == pos.line) fun hp => ckB (nBase o) fun ho => (ces ce es).bind fun ds => ckI (np = ds.1.length + 1) fun hn => ck1 (ce o) (fun d => mcal [(c, F), (c', F')] d ds.1) fun zz d => (mc1 ds.2.2 hl hp ho).elim fun zz e => SE.mcal2 (hn ▸ M.2) (hn ▸ M'.2) d ds.2.1 (starAny ds.2.2) e
theorem getC {α : Type} {P : α → Prop} {c : Ck P} {d : α} (h : c.map (·.1) = some d) : P d := by
 cases c with
 | none => cases h
 | some a => cases h; exact a.2
def fdA (u : Su) (a : Addr) : Option FuncData := match (st u).K.lookup a with
 | some ⟨_, _, .func f, _⟩ => some f
 | _ => none
def fdD (u : Su) (a : Addr) : FuncData := (fdA u a).getD default
theorem fdA_ok {a : Addr} {f : FuncData} (h : fdA u a = some f) : ∃ o, (st u).K.lookup a = some o ∧ o.data = .func f := by
 unfold fdA at h
 split at h
 · cases h; exact ⟨_, by assumption, rfl⟩
 · cases h
def optB (o : FuncBody) : Ck fun x => o = .stmts x := match o with
 | .stmts x => some ⟨x, rfl⟩
 | _ => none
def AllN (n : Nat) : (List Value → Prop) → Prop := Nat.rec (fun P => P []) (fun zz r P => ∀ a, r fun t => P (a :: t)) n
theorem allN {n : Nat} : ∀ {P : List Value → Prop}, AllN n P → ∀ cs, cs.length = n → P cs := by
 induction n with
 | zero =>
  intro P h cs e
  cases cs with
  | nil => exact h
  | cons _ _ => cases e
 | succ n ih =>
  intro P h cs e
  cases cs with
  | nil => cases e
  | cons a cs => exact ih (h a) cs (Nat.succ.inj e)
def ckF {lev : Nat} (a np : Nat) (ns : List PySem.Str) (H : List (Hk u lev)) (cn : CN) : Ck fun F : DF => (AllN np fun cs => ∀ T, peek (st u).K T (bindArgs (fdD u a) ⟨cs, []⟩) = some (((fdD u a).params.args.map (·.arg)).zip cs)) → Fp (st u) (lev + 1) a F np :=
 (optP (fdA u a)).bind fun f => (optB f.1.body).bind fun b => ckI (f.1.globals = mainGlobals) fun hg => ckI (f.1.builtins = builtinsNs) fun hb => ckB f.1.closure.isEmpty fun hc => ckB (codeIn (st u).K f.1.code f.1.qualname) fun h4 => ckB (okDef (ns.map some) f.1.scope (f.1.params.args.map (·.arg))) fun h5 => ckB (keepIn (st u).K (.ref a)) fun h6 => ckI (np = f.1.params.args.length) fun h7 => ck1 (css ((cmp H cn 50).2.2.2 f.1.scope (ns.map some)) b.1) (fnD (ns.length + cn.length - np)) fun D w hB => (fdA_ok f.2).elim fun o ho =>
 ⟨h6, Fn.of (Def.of ho.1 ho.2 b.2 rfl hg hb (List.isEmpty_iff.mp hc) h4 h5) _ w, fun cs e => ⟨o, f.1, ho.1, ho.2, e.trans h7, fun s X => kp_binds X (by
  have q : fdD u a = f.1 := congrArg (·.getD default) f.2
  rw [q] at hB
  exact allN hB cs e)⟩⟩
theorem fpOf {a np lev : Nat} {F : DF} (ns : List PySem.Str) (H : List (Hk u lev)) (cn : CN) (hb : AllN np fun cs => ∀ T, peek (st u).K T (bindArgs (fdD u a) ⟨cs, []⟩) = some (((fdD u a).params.args.map (·.arg)).zip cs)) (w : (ckF a np ns H cn).map (·.1) = some F := by kernel_rfl) : Fp (st u) (lev + 1) a F np := getC w hb
end
end Mine
end
section
namespace Mine
open PySem PySem.W PySem.Calls PyProof.Rows
noncomputable section
variable {u : Su}
theorem fp0 : Fp (st u) 1 1191 F__law_pool 2 := fpOf ["script", "row", "cell", "big", "mixed"] [] [] fun zz zz zz => by kernel_rfl
theorem fp1 : Fp (st u) 1 1198 F__law_take 2 := fpOf ["source", "top", "drawn"] [] [] fun zz zz zz => by kernel_rfl
theorem fp2 : Fp (st u) 2 1205 F__law_one 2 := fpOf ["source", "things"] [hFn fp1] [] fun zz zz zz => by kernel_rfl
theorem fp3 : Fp (st u) 1 453 F_TreeTail___init__ 6 := fpOf ["self", "region", "cost", "bridge", "hops", "rows"] [] [] fun zz zz zz zz zz zz zz => by kernel_rfl
theorem k_TreeTail : KC u 9 453 := ⟨by kernel_rfl, by kernel_rfl, by kernel_rfl, by kernel_rfl⟩
theorem fp4 : Fp (st u) 1 503 F_cist_told 3 := fpOf ["vector", "tail", "is_internal", "root", "cost", "regional", "port_id"] [] [] fun zz zz zz zz => by kernel_rfl
theorem fp5 : Fp (st u) 1 510 F_cist_behind 4 := fpOf ["vector", "cost", "is_internal", "own"] [] [] fun zz zz zz zz zz => by kernel_rfl
theorem fp6 : Fp (st u) 1 517 F_tree_behind 2 := fpOf ["vector", "cost"] [] [] fun zz zz zz => by kernel_rfl
theorem fp7 : Fp (st u) 1 531 F_is_from_same_port 2 := fpOf ["one", "other"] [] [] fun zz zz zz => by kernel_rfl
theorem fp8 : Fp (st u) 2 538 F_takes_over 2 := fpOf ["told", "held"] [hFn fp7] [] fun zz zz zz => by kernel_rfl
theorem fp9 : Fp (st u) 3 1210 F__law_vectors_right 1 := fpOf ["source", "tail", "whole", "worse", "far", "told", "root", "near", "outer", "inner", "cost", "own"] [hFn fp1, hFn fp2, hFn fp4, hFn fp5, hFn fp6, hFn fp8, hMk 9 k_TreeTail fp3] [("one", 12)] fun zz zz => by kernel_rfl
theorem fp10 : Fp (st u) 1 396 F_check_region 3 := fpOf ["name", "revision", "instances", "vlan"] [] [] fun zz zz zz zz => by kernel_rfl
theorem fp11 : Fp (st u) 2 351 F_Region___init__ 5 := fpOf ["self", "name", "revision", "instances", "kept_digest"] [hFn fp10] [] fun zz zz zz zz zz zz => by kernel_rfl
theorem k_Region : KC u 7 351 := ⟨by kernel_rfl, by kernel_rfl, by kernel_rfl, by kernel_rfl⟩
theorem fp12 : Fp (st u) 1 1170 F_PortRow___init__ 6 := fpOf ["self", "number", "priority", "cost", "is_edge", "is_straight"] [] [] fun zz zz zz zz zz zz zz => by kernel_rfl
theorem k_PortRow : KC u 15 1170 := ⟨by kernel_rfl, by kernel_rfl, by kernel_rfl, by kernel_rfl⟩
theorem md_PortRow_ (f x : Addr) (cs ks : List Value) (hf : findIn (st u).K (.ref ((st u).cls 15)) "__init__" = some (some (.ref f))) (h1 : cs.length = 3) (h2 : ks.length = 0) : Binds (st u) f ⟨.ref x :: cs, ([] : List PySem.Str).zip ks⟩ (.ref x :: Mine.fill id ([none, none, none, some (.bool false), some (.bool true)] : List (Option Value)) (cs ++ ks)) := by
 have e : findIn (st u).K (.ref ((st u).cls 15)) "__init__" = some (some (.ref 1170)) := by kernel_rfl
 rw [e] at hf; cases hf
 obtain ⟨c0, cs0, rfl, g0⟩ := lenE h1; obtain ⟨c1, cs1, rfl, g1⟩ := lenE g0; obtain ⟨c2, cs2, rfl, g2⟩ := lenE g1; obtain rfl := List.eq_nil_of_length_eq_zero g2; obtain rfl := List.eq_nil_of_length_eq_zero h2; exact ⟨_, _, rfl, rfl, rfl, fun s X => kp_binds X fun zz => by kernel_rfl⟩
theorem fp13 : Fp (st u) 1 324 F_put_number 2 := fpOf ["number", "many"] [] [("place", 2)] fun zz zz zz => by kernel_rfl
theorem fp14 : Fp (st u) 2 331 F_put16 1 := fpOf ["number"] [hFn fp13] [] fun zz zz => by kernel_rfl
theorem fp15 : Fp (st u) 1 375 F_Region_digest 1 := fpOf ["self", "rows"] [] [] fun zz zz => by kernel_rfl
theorem fp16 : Fp (st u) 3 382 F_Region_octets 1 := fpOf ["self", "name"] [hFn fp14, hMe cl_Region fp15] [] fun zz zz => by kernel_rfl
theorem fp17 : Fp (st u) 1 815 F_PortSide___init__ 2 := fpOf ["self", "row"] [] [] fun zz zz zz => by kernel_rfl
theorem k_PortSide : KC u 11 815 := ⟨by kernel_rfl, by kernel_rfl, by kernel_rfl, by kernel_rfl⟩
theorem fp18 : Fp (st u) 1 857 F_TreePort_clear 1 := fpOf ["self"] [] [] fun zz zz => by kernel_rfl
theorem fp19 : Fp (st u) 2 850 F_TreePort___init__ 2 := fpOf ["self", "number"] [hMe cl_TreePort fp18] [] fun zz zz zz => by kernel_rfl
theorem k_TreePort : KC u 12 850 := ⟨by kernel_rfl, by kernel_rfl, by kernel_rfl, by kernel_rfl⟩
theorem fp20 : Fp (st u) 4 897 F_TreeSide___init__ 4 := fpOf ["self", "number", "bridge", "ports"] [hMk 22 k_TreePort fp19] [("port", 4)] fun zz zz zz zz zz => by kernel_rfl
theorem k_TreeSide : KC u 13 897 := ⟨by kernel_rfl, by kernel_rfl, by kernel_rfl, by kernel_rfl⟩
theorem fp21 : Fp (st u) 1 363 F_Region_numbers 1 := fpOf ["self"] [] [("number", 1)] fun zz zz => by kernel_rfl
theorem fp22 : Fp (st u) 1 971 F_MstBridge_numbers 1 := fpOf ["self"] [] [] fun zz zz => by kernel_rfl
theorem fp23 : Fp (st u) 1 990 F_MstBridge_instance_trees 1 := fpOf ["self"] [] [("number", 1)] fun zz zz => by kernel_rfl
theorem fp24 : Fp (st u) 2 997 F_MstBridge_all_trees 1 := fpOf ["self"] [hMe cl_MstBridge fp23] [] fun zz zz => by kernel_rfl
theorem fp25 : Fp (st u) 1 559 F_own_tree_vector 1 := fpOf ["tree"] [] [] fun zz zz => by kernel_rfl
theorem fp26 : Fp (st u) 1 978 F_MstBridge_side 2 := fpOf ["self", "number"] [] [] fun zz zz zz => by kernel_rfl
theorem fp27 : Fp (st u) 2 552 F_is_candidate 3 := fpOf ["bridge", "tree", "port"] [hMe cl_MstBridge fp26] [] fun zz zz zz zz => by kernel_rfl
theorem fp28 : Fp (st u) 1 822 F_PortSide_port_id 1 := fpOf ["self"] [] [] fun zz zz => by kernel_rfl
theorem fp29 : Fp (st u) 2 545 F_behind_port 3 := fpOf ["bridge", "tree", "port", "side"] [hFn fp6, hFn fp5, hMe cl_MstBridge fp26, hMe cl_PortSide fp28] [] fun zz zz zz zz => by kernel_rfl
theorem fp30 : Fp (st u) 3 566 F_choose_root 2 := fpOf ["bridge", "tree", "number", "best", "found", "port", "told", "side"] [hFn fp25, hFn fp27, hFn fp29, hMe cl_MstBridge fp26] [] fun zz zz zz => by kernel_rfl
theorem fp31 : Fp (st u) 1 524 F_with_teller 3 := fpOf ["vector", "bridge", "port_id"] [] [] fun zz zz zz zz => by kernel_rfl
theorem fp32 : Fp (st u) 2 573 F_designated_vector 3 := fpOf ["bridge", "tree", "number", "side", "found"] [hFn fp31, hMe cl_MstBridge fp26, hMe cl_PortSide fp28] [] fun zz zz zz zz => by kernel_rfl
theorem fp33 : Fp (st u) 2 594 F_is_beyond 3 := fpOf ["bridge", "tree", "number"] [hMe cl_MstBridge fp26] [] fun zz zz zz zz => by kernel_rfl
theorem fp34 : Fp (st u) 1 587 F_role_beside 2 := fpOf ["bridge", "number", "role"] [] [] fun zz zz zz => by kernel_rfl
theorem fp35 : Fp (st u) 2 580 F_role_by_vectors 3 := fpOf ["bridge", "tree", "port"] [hMe cl_MstBridge fp26] [] fun zz zz zz zz => by kernel_rfl
theorem fp36 : Fp (st u) 4 601 F_choose_roles 2 := fpOf ["bridge", "tree", "found", "number", "port"] [hFn fp30, hFn fp32, hFn fp33, hFn fp34, hFn fp35] [] fun zz zz zz => by kernel_rfl
theorem fp37 : Fp (st u) 1 608 F_take_own 1 := fpOf ["port"] [] [] fun zz zz => by kernel_rfl
theorem fp38 : Fp (st u) 1 1004 F_MstBridge_want_to_send 2 := fpOf ["self", "number"] [] [] fun zz zz zz => by kernel_rfl
theorem fp39 : Fp (st u) 1 871 F_TreePort_block 2 := fpOf ["self", "delay"] [] [] fun zz zz zz => by kernel_rfl
theorem fp40 : Fp (st u) 2 742 F_moved_disabled 3 := fpOf ["bridge", "tree", "port"] [hMe cl_TreePort fp39] [] fun zz zz zz zz => by kernel_rfl
theorem fp41 : Fp (st u) 1 794 F_moved_beyond 3 := fpOf ["bridge", "tree", "port", "other"] [] [] fun zz zz zz zz => by kernel_rfl
theorem fp42 : Fp (st u) 1 902 F_TreeSide_others 2 := fpOf ["self", "number"] [] [("port", 2)] fun zz zz zz => by kernel_rfl
theorem fp43 : Fp (st u) 2 1120 F_MstBridge_are_instances_synced 3 := fpOf ["self", "tree", "number", "other", "port"] [hMe cl_MstBridge fp23, hMe cl_TreeSide fp42] [] fun zz zz zz zz => by kernel_rfl
theorem fp44 : Fp (st u) 2 754 F_are_synced 2 := fpOf ["tree", "number"] [hMe cl_TreeSide fp42] [("port", 2)] fun zz zz zz => by kernel_rfl
theorem fp45 : Fp (st u) 3 761 F_agreed_onward 3 := fpOf ["bridge", "tree", "port"] [hFn fp44, hMe cl_MstBridge fp43, hMe cl_MstBridge fp38] [] fun zz zz zz zz => by kernel_rfl
theorem fp46 : Fp (st u) 1 985 F_MstBridge_delay 1 := fpOf ["self"] [] [] fun zz zz => by kernel_rfl
theorem fp47 : Fp (st u) 2 1134 F_MstBridge_spread_change 3 := fpOf ["self", "tree", "number", "port"] [hMe cl_TreeSide fp42, hMe cl_MstBridge fp38] [] fun zz zz zz zz => by kernel_rfl
theorem fp48 : Fp (st u) 3 1127 F_MstBridge_tell_change 3 := fpOf ["self", "tree", "port"] [hMe cl_MstBridge fp38, hMe cl_MstBridge fp47] [] fun zz zz zz zz => by kernel_rfl
theorem fp49 : Fp (st u) 4 773 F_opened 3 := fpOf ["bridge", "tree", "port"] [hMe cl_MstBridge fp46, hMe cl_MstBridge fp48] [] fun zz zz zz zz => by kernel_rfl
theorem fp50 : Fp (st u) 5 766 F_moved_root 3 := fpOf ["bridge", "tree", "port", "is_free", "other"] [hFn fp45, hFn fp49, hMe cl_TreeSide fp42, hMe cl_MstBridge fp46] [("one", 5)] fun zz zz zz zz => by kernel_rfl
theorem fp51 : Fp (st u) 2 780 F_moved_designated 3 := fpOf ["bridge", "tree", "port", "side", "is_shut", "must_shut", "may_open"] [hMe cl_MstBridge fp26, hMe cl_MstBridge fp38] [] fun zz zz zz zz => by kernel_rfl
theorem fp52 : Fp (st u) 4 787 F_moved_blocked 3 := fpOf ["bridge", "tree", "port"] [hFn fp45, hMe cl_TreePort fp39, hMe cl_MstBridge fp46] [] fun zz zz zz zz => by kernel_rfl
theorem fp53 : Fp (st u) 6 801 F_moved_port 3 := fpOf ["bridge", "tree", "port"] [hFn fp40, hFn fp33, hFn fp41, hFn fp50, hFn fp51, hFn fp52] [] fun zz zz zz zz => by kernel_rfl
theorem fp54 : Fp (st u) 7 1106 F_MstBridge_step 1 := fpOf ["self", "is_moved", "tree", "port", "number"] [hFn fp36, hFn fp37, hFn fp53, hMe cl_MstBridge fp24, hMe cl_MstBridge fp38, hMe2 cl_Region fp21 cl_MstBridge fp22] [] fun zz zz => by kernel_rfl
theorem fp55 : Fp (st u) 1 917 F_told_flags 1 := fpOf ["port"] [] [] fun zz zz => by kernel_rfl
theorem fp56 : Fp (st u) 1 113 F_Times___init__ 5 := fpOf ["self", "age", "max_age", "hello", "delay"] [] [] fun zz zz zz zz zz zz => by kernel_rfl
theorem k_Times : KC u 5 113 := ⟨by kernel_rfl, by kernel_rfl, by kernel_rfl, by kernel_rfl⟩
theorem fp57 : Fp (st u) 1 418 F_TreeRow___init__ 9 := fpOf ["self", "instance", "regional", "cost", "bridge_priority", "port_priority", "hops", "role", "flags"] [] [] fun zz zz zz zz zz zz zz zz zz zz => by kernel_rfl
theorem k_TreeRow : KC u 8 418 := ⟨by kernel_rfl, by kernel_rfl, by kernel_rfl, by kernel_rfl⟩
theorem fp58 : Fp (st u) 3 924 F_tree_row 3 := fpOf ["bridge", "tree", "number", "role", "priority", "port", "vector"] [hFn fp55, hMk 9 k_TreeRow fp57] [] fun zz zz zz zz => by kernel_rfl
theorem fp59 : Fp (st u) 1 182 F_number_octets 2 := fpOf ["number", "size"] [] [("place", 2)] fun zz zz zz => by kernel_rfl
theorem fp60 : Fp (st u) 2 196 F_bridge_octets 1 := fpOf ["bridge"] [hFn fp59] [] fun zz zz => by kernel_rfl
theorem fp61 : Fp (st u) 3 481 F_row_octets 1 := fpOf ["row", "bits", "head", "worth"] [hFn fp59, hFn fp60] [("name", 4), ("bit", 5)] fun zz zz => by kernel_rfl
theorem fp62 : Fp (st u) 4 486 F_tail_octets 1 := fpOf ["tail", "head"] [hFn fp59, hFn fp60, hFn fp61] [("row", 2)] fun zz zz => by kernel_rfl
theorem fp63 : Fp (st u) 5 929 F_tree_tail 2 := fpOf ["bridge", "number", "vector", "rows"] [hFn fp58, hFn fp62, hMe cl_MstBridge fp23, hMk 9 k_TreeTail fp3] [("tree", 4)] fun zz zz zz => by kernel_rfl
theorem fp64 : Fp (st u) 1 149 F_Bpdu___init__ 13 := fpOf ["self", "version", "kind", "vector", "times", "is_change", "is_change_ack", "is_proposal", "is_agreement", "role", "is_learning", "is_forwarding", "tail"] [] [] fun zz zz zz zz zz zz zz zz zz zz zz zz zz zz => by kernel_rfl
theorem k_Bpdu : KC u 6 149 := ⟨by kernel_rfl, by kernel_rfl, by kernel_rfl, by kernel_rfl⟩
theorem md_Bpdu_role (f x : Addr) (cs ks : List Value) (hf : findIn (st u).K (.ref ((st u).cls 6)) "__init__" = some (some (.ref f))) (h1 : cs.length = 4) (h2 : ks.length = 1) : Binds (st u) f ⟨.ref x :: cs, (["role"] : List PySem.Str).zip ks⟩ (.ref x :: Mine.fill id ([none, none, none, none, some (.bool false), some (.bool false), some (.bool false), some (.bool false), none, some (.bool false), some (.bool false), some (.bytes ⟨[]⟩ 388)] : List (Option Value)) (cs ++ ks)) := by
 have e : findIn (st u).K (.ref ((st u).cls 6)) "__init__" = some (some (.ref 149)) := by kernel_rfl
 rw [e] at hf; cases hf
 obtain ⟨c0, cs0, rfl, g0⟩ := lenE h1; obtain ⟨c1, cs1, rfl, g1⟩ := lenE g0; obtain ⟨c2, cs2, rfl, g2⟩ := lenE g1; obtain ⟨c3, cs3, rfl, g3⟩ := lenE g2; obtain ⟨k0, ks0, rfl, l0⟩ := lenE h2; obtain rfl := List.eq_nil_of_length_eq_zero g3; obtain rfl := List.eq_nil_of_length_eq_zero l0; exact ⟨_, _, rfl, rfl, rfl, fun s X => kp_binds X fun zz => by kernel_rfl⟩
theorem md_Bpdu_role_tail (f x : Addr) (cs ks : List Value) (hf : findIn (st u).K (.ref ((st u).cls 6)) "__init__" = some (some (.ref f))) (h1 : cs.length = 4) (h2 : ks.length = 2) : Binds (st u) f ⟨.ref x :: cs, (["role", "tail"] : List PySem.Str).zip ks⟩ (.ref x :: Mine.fill id ([none, none, none, none, some (.bool false), some (.bool false), some (.bool false), some (.bool false), none, some (.bool false), some (.bool false), none] : List (Option Value)) (cs ++ ks)) := by
 have e : findIn (st u).K (.ref ((st u).cls 6)) "__init__" = some (some (.ref 149)) := by kernel_rfl
 rw [e] at hf; cases hf
 obtain ⟨c0, cs0, rfl, g0⟩ := lenE h1; obtain ⟨c1, cs1, rfl, g1⟩ := lenE g0; obtain ⟨c2, cs2, rfl, g2⟩ := lenE g1; obtain ⟨c3, cs3, rfl, g3⟩ := lenE g2; obtain ⟨k0, ks0, rfl, l0⟩ := lenE h2; obtain ⟨k1, ks1, rfl, l1⟩ := lenE l0; obtain rfl := List.eq_nil_of_length_eq_zero g3; obtain rfl := List.eq_nil_of_length_eq_zero l1; exact ⟨_, _, rfl, rfl, rfl, fun s X => kp_binds X fun zz => by kernel_rfl⟩
theorem fp65 : Fp (st u) 6 936 F_made_bpdu 2 := fpOf ["bridge", "number", "times", "tail", "side", "port", "root", "cost", "regional", "inner", "own", "port_id", "vector", "flags", "role", "is_mst"] [hFn fp55, hFn fp63, hMe cl_MstBridge fp26, hMk 10 k_Times fp56, hMk 12 k_Bpdu fp64] [] fun zz zz zz => by kernel_rfl
theorem fp66 : Fp (st u) 7 950 F_send_waiting 1 := fpOf ["bridge", "number", "side", "made"] [hFn fp65, hMe cl_MstBridge fp26, hMe2 cl_Region fp21 cl_MstBridge fp22] [] fun zz zz => by kernel_rfl
theorem fp67 : Fp (st u) 8 1099 F_MstBridge_settle 1 := fpOf ["self", "turn"] [hFn fp66, hMe cl_MstBridge fp54] [] fun zz zz => by kernel_rfl
theorem fp68 : Fp (st u) 9 964 F_MstBridge___init__ 8 := fpOf ["self", "bridge", "rows", "times", "region", "hold", "priorities", "most_hops", "told", "number", "own"] [hMe cl_Region fp16, hMe cl_MstBridge fp67, hMe2 cl_Region fp21 cl_MstBridge fp22, hMk 10 k_PortSide fp17, hMk 10 k_TreeSide fp20] [("row", 11)] fun zz zz zz zz zz zz zz zz zz => by kernel_rfl
theorem k_MstBridge : KC u 14 964 := ⟨by kernel_rfl, by kernel_rfl, by kernel_rfl, by kernel_rfl⟩
theorem md_MstBridge_ (f x : Addr) (cs ks : List Value) (hf : findIn (st u).K (.ref ((st u).cls 14)) "__init__" = some (some (.ref f))) (h1 : cs.length = 4) (h2 : ks.length = 0) : Binds (st u) f ⟨.ref x :: cs, ([] : List PySem.Str).zip ks⟩ (.ref x :: Mine.fill id ([none, none, none, none, some (.int 6 1728), some (.none), some (.int 20 1710)] : List (Option Value)) (cs ++ ks)) := by
 have e : findIn (st u).K (.ref ((st u).cls 14)) "__init__" = some (some (.ref 964)) := by kernel_rfl
 rw [e] at hf; cases hf
 obtain ⟨c0, cs0, rfl, g0⟩ := lenE h1; obtain ⟨c1, cs1, rfl, g1⟩ := lenE g0; obtain ⟨c2, cs2, rfl, g2⟩ := lenE g1; obtain ⟨c3, cs3, rfl, g3⟩ := lenE g2; obtain rfl := List.eq_nil_of_length_eq_zero g3; obtain rfl := List.eq_nil_of_length_eq_zero h2; exact ⟨_, _, rfl, rfl, rfl, fun s X => kp_binds X fun zz => by kernel_rfl⟩
theorem fp69 : Fp (st u) 1 829 F_PortSide_begin 1 := fpOf ["self"] [] [] fun zz zz => by kernel_rfl
theorem fp70 : Fp (st u) 9 1057 F_MstBridge_link_up 2 := fpOf ["self", "number", "tree"] [hMe cl_PortSide fp69, hMe cl_MstBridge fp24, hMe cl_TreePort fp18, hMe cl_MstBridge fp46, hMe cl_MstBridge fp67] [] fun zz zz zz => by kernel_rfl
theorem fp71 : Fp (st u) 1 728 F_note_sort 2 := fpOf ["side", "bpdu"] [] [] fun zz zz zz => by kernel_rfl
theorem fp72 : Fp (st u) 1 189 F_octets_number 1 := fpOf ["octets", "found", "octet"] [] [] fun zz zz => by kernel_rfl
theorem fp73 : Fp (st u) 2 231 F_read_bridge 1 := fpOf ["octets"] [hFn fp72] [] fun zz zz => by kernel_rfl
theorem fp74 : Fp (st u) 3 491 F_read_row 1 := fpOf ["octets", "flags", "role", "regional", "cost", "priority", "port_priority"] [hFn fp73, hFn fp72, hMk 9 k_TreeRow fp57] [("name", 7), ("bit", 8)] fun zz zz => by kernel_rfl
theorem fp75 : Fp (st u) 4 496 F_read_tree_tail 1 := fpOf ["octets", "rows", "numbers", "place", "many", "rest", "cost", "bridge"] [hFn fp74, hFn fp72, hFn fp73, hMk 9 k_TreeTail fp3] [("at", 8), ("row", 9), ("number", 10)] fun zz zz => by kernel_rfl
theorem fp76 : Fp (st u) 1 403 F_same_region 2 := fpOf ["one", "other"] [] [] fun zz zz zz => by kernel_rfl
theorem fp77 : Fp (st u) 5 644 F_tail_heard 2 := fpOf ["bridge", "bpdu", "tail"] [hFn fp75, hFn fp76] [] fun zz zz zz => by kernel_rfl
theorem fp78 : Fp (st u) 2 721 F_turn_internal 3 := fpOf ["bridge", "number", "is_internal", "side", "tree"] [hMe cl_MstBridge fp26, hMe cl_MstBridge fp23, hMe cl_TreePort fp18, hMe cl_MstBridge fp46] [] fun zz zz zz zz => by kernel_rfl
theorem fp79 : Fp (st u) 1 679 F_hear_agreement 5 := fpOf ["bridge", "tree", "port", "told", "bpdu"] [] [] fun zz zz zz zz zz zz => by kernel_rfl
theorem fp80 : Fp (st u) 1 615 F_life_of 4 := fpOf ["bridge", "port", "is_internal", "times", "is_fresh"] [] [] fun zz zz zz zz zz => by kernel_rfl
theorem fp81 : Fp (st u) 2 686 F_keep_told 4 := fpOf ["bridge", "port", "told", "times"] [hFn fp80] [] fun zz zz zz zz zz => by kernel_rfl
theorem fp82 : Fp (st u) 3 693 F_hear_better 5 := fpOf ["bridge", "tree", "port", "told", "bpdu"] [hFn fp79, hFn fp81] [] fun zz zz zz zz zz zz => by kernel_rfl
theorem fp83 : Fp (st u) 1 707 F_hear_worse 4 := fpOf ["bridge", "tree", "port", "told"] [] [] fun zz zz zz zz zz => by kernel_rfl
theorem fp84 : Fp (st u) 4 714 F_hear_tree 5 := fpOf ["bridge", "tree", "port", "told", "bpdu", "is_held"] [hFn fp8, hFn fp82, hFn fp83] [] fun zz zz zz zz zz zz => by kernel_rfl
theorem fp85 : Fp (st u) 1 630 F_TreeTelling___init__ 7 := fpOf ["self", "vector", "age", "hops", "is_internal", "role", "flags"] [] [] fun zz zz zz zz zz zz zz zz => by kernel_rfl
theorem k_TreeTelling : KC u 10 630 := ⟨by kernel_rfl, by kernel_rfl, by kernel_rfl, by kernel_rfl⟩
theorem fp86 : Fp (st u) 1 651 F_cist_flags 1 := fpOf ["bpdu"] [] [] fun zz zz => by kernel_rfl
theorem fp87 : Fp (st u) 3 658 F_cist_telling 2 := fpOf ["bpdu", "tail", "is_internal", "vector", "role"] [hFn fp4, hFn fp86, hMk 10 k_TreeTelling fp85] [] fun zz zz zz => by kernel_rfl
theorem fp88 : Fp (st u) 1 425 F_TreeRow_vector 3 := fpOf ["self", "mac", "number", "bridge"] [] [] fun zz zz zz zz => by kernel_rfl
theorem fp89 : Fp (st u) 3 665 F_row_telling 3 := fpOf ["bpdu", "tail", "row", "vector"] [hMe cl_TreeRow fp88, hMk 10 k_TreeTelling fp85] [] fun zz zz zz zz => by kernel_rfl
theorem fp90 : Fp (st u) 6 735 F_hear_bpdu 3 := fpOf ["bridge", "number", "bpdu", "side", "tail", "row", "tree"] [hFn fp71, hFn fp77, hFn fp78, hFn fp84, hFn fp87, hFn fp89, hMe cl_MstBridge fp26] [] fun zz zz zz zz => by kernel_rfl
theorem fp91 : Fp (st u) 9 1071 F_MstBridge_receive 3 := fpOf ["self", "number", "bpdu"] [hFn fp90, hMe cl_MstBridge fp67] [] fun zz zz zz zz => by kernel_rfl
theorem fp92 : Fp (st u) 1 476 F_no_flags 0 := fpOf [] [] [("name", 0), ("bit", 1)] fun zz => by kernel_rfl
theorem fp93 : Fp (st u) 5 1217 F__law_heard 4 := fpOf ["way", "region", "numbers", "priority", "vector", "rows", "number", "octets", "tail", "other", "times"] [hFn fp92, hFn fp62, hMe cl_Region fp16, hMk 10 k_Times fp56, hMk 9 k_TreeRow fp57, hMk 4 k_Region fp11, hMk 9 k_TreeTail fp3, hMd 12 k_Bpdu fp64 (.hole (.hole (.hole (.hole (.val (.bool _) (.val (.bool _) (.val (.bool _) (.val (.bool _) (.hole (.val (.bool _) (.val (.bool _) (.val (.bytes [] _ _ rfl) .nil)))))))))))) md_Bpdu_role, hMd 12 k_Bpdu fp64 (.hole (.hole (.hole (.hole (.val (.bool _) (.val (.bool _) (.val (.bool _) (.val (.bool _) (.hole (.val (.bool _) (.val (.bool _) (.hole .nil)))))))))))) md_Bpdu_role_tail] [] fun zz zz zz zz zz => by kernel_rfl
theorem fp94 : Fp (st u) 1 120 F_Times_told 1 := fpOf ["self"] [] [] fun zz zz => by kernel_rfl
theorem fp95 : Fp (st u) 1 156 F_Bpdu_flags 1 := fpOf ["self", "found"] [] [] fun zz zz => by kernel_rfl
theorem fp96 : Fp (st u) 2 163 F_Bpdu_told 1 := fpOf ["self", "times", "head"] [hMe cl_Times fp94, hMe cl_Bpdu fp95] [] fun zz zz => by kernel_rfl
theorem fp97 : Fp (st u) 1 264 F_kind_of 1 := fpOf ["code", "kind"] [] [] fun zz zz => by kernel_rfl
theorem fp98 : Fp (st u) 2 238 F_read_port 1 := fpOf ["octets", "worth"] [hFn fp72] [] fun zz zz => by kernel_rfl
theorem fp99 : Fp (st u) 3 245 F_read_vector 1 := fpOf ["octets"] [hFn fp73, hFn fp72, hFn fp98] [] fun zz zz => by kernel_rfl
theorem fp100 : Fp (st u) 3 250 F_read_times 1 := fpOf ["octets", "age", "max_age", "hello", "delay"] [hFn fp72, hMk 10 k_Times fp56] [("at", 5)] fun zz zz => by kernel_rfl
theorem fp101 : Fp (st u) 2 257 F_read_tail 1 := fpOf ["octets", "size", "found"] [hFn fp72] [] fun zz zz => by kernel_rfl
theorem fp102 : Fp (st u) 4 271 F_unpack_bpdu 1 := fpOf ["octets", "tail", "kind", "version", "flags", "vector", "times"] [hFn fp72, hFn fp97, hFn fp99, hFn fp100, hFn fp101, hMk 12 k_Bpdu fp64] [] fun zz zz => by kernel_rfl
theorem fp103 : Fp (st u) 2 203 F_port_octets 1 := fpOf ["port_id", "priority", "number"] [hFn fp59] [] fun zz zz => by kernel_rfl
theorem fp104 : Fp (st u) 3 210 F_vector_octets 1 := fpOf ["vector", "root", "cost", "bridge", "port_id"] [hFn fp60, hFn fp59, hFn fp103] [] fun zz zz => by kernel_rfl
theorem fp105 : Fp (st u) 3 217 F_times_octets 1 := fpOf ["times", "found", "worth"] [hFn fp59, hMe2 cl_Times fp94 cl_Bpdu fp96] [] fun zz zz => by kernel_rfl
theorem fp106 : Fp (st u) 4 224 F_pack_bpdu 1 := fpOf ["bpdu", "head", "found"] [hFn fp59, hFn fp104, hFn fp105, hMe cl_Bpdu fp95] [] fun zz zz => by kernel_rfl
theorem fp107 : Fp (st u) 7 1222 F__law_told_right 5 := fpOf ["bridge", "region", "numbers", "port", "is_rapid", "made", "vector", "tail", "row", "inner", "flags"] [hFn fp65, hFn fp102, hFn fp106, hFn fp75, hMe cl_Region fp16, hMe cl_TreeRow fp88, hMe2 cl_Times fp94 cl_Bpdu fp96] [("row", 11), ("word", 12)] fun zz zz zz zz zz zz => by kernel_rfl
noncomputable abbrev nL : List (Option PySem.Str) := [some "script", some "source", some "numbers", some "region", some "rows", some "row", some "bridge", some "heard", some "priority"]
theorem w108 (u : Su) : SS (st u) 10 (scOf (stm 140)) nL (bodyOf (stm 140)) D_law := getC (c := css ((cmp [hFn fp0, hFn fp9, hFn fp1, hFn fp2, hFn fp93, hFn fp107, hMe cl_MstBridge fp70, hMe cl_MstBridge fp91, hMk 4 k_Region fp11, hMk 10 k_Times fp56, hMd 5 k_PortRow fp12 (.hole (.hole (.hole (.val (.bool _) (.val (.bool _) .nil))))) md_PortRow_, hMd 9 k_MstBridge fp68 (.hole (.hole (.hole (.hole (.val (.int _ _) (.val (.none) (.val (.int _ _) .nil))))))) md_MstBridge_] [("number", 9), ("port", 10)] 50).2.2.2 (scOf (stm 140)) nL) (bodyOf (stm 140))) (by kernel_rfl)
theorem d108 (u : Su) : ∃ fd, Def (st u) 1227 nL (scOf (stm 140)) (bodyOf (stm 140)) fd := ⟨_, Def.of (o := o786) (by kernel_rfl) rfl (by kernel_rfl) (by kernel_rfl) rfl rfl rfl (by kernel_rfl) (by kernel_rfl)⟩
theorem bi108 (u : Su) : ∀ (cs : List Value), cs.length = 1 → Binds (st u) 1227 ⟨cs, []⟩ cs := lenS fun c0 => len0 ⟨o786, _, by kernel_rfl, rfl, rfl, fun s X => kp_binds X fun zz => by kernel_rfl⟩
end
end Mine
end
section
namespace Mine
open PySem PySem.W PySem.Calls PyProof.Rows
noncomputable section
noncomputable def qv : Program := { pn with main := { pn.main with body := [stm 140] } }
noncomputable def lq : List PySem.Str := pn.boundNames.filter fun x => !(x == "law")
noncomputable def rw0 : OpenLaw := PySem.Challenge.rw_pc0388_01
theorem defq0 : (defOf qv (PySem.Str.ofString "law")).isSome = true := by kernel_rfl
noncomputable def dq : DefRec × List (PySem.Str × PySem.Expr) := (defOf qv (PySem.Str.ofString "law")).get defq0
theorem defq : defOf qv (PySem.Str.ofString "law") = some (dq.1, dq.2) := by kernel_rfl
theorem thq : pn.theDef (PySem.Str.ofString "law") = some (dq.1.params, dq.1.body, dq.1.scope) := by kernel_rfl
theorem kwq : kwWritten? dq.1.params.kwonlyargs dq.1.params.kw_defaults = some dq.2 := by kernel_rfl
theorem okq : (chainsOk qv && opensWell pn && (frees rw0.row.toRowW && rw0.row.toRowW.within.isEmpty)) = true := by kernel_rfl
theorem bareq : pn.bare := ⟨rfl, rfl, rfl, rfl, rfl, by decide +kernel⟩
theorem promq : rw0.row.toRowW.promised := ⟨[.list []], by decide +kernel, by decide +kernel⟩
theorem opq : opening pn = plainProg pn.main.scope.names := by kernel_rfl
theorem fenq (s : Shared) : fenceModules? pn s = some s := by kernel_rfl
end
end Mine
end
section
namespace Mine
open PySem PySem.W PySem.Calls PyProof.Rows
set_option maxHeartbeats 0 in
theorem wS : PySem.Challenge.rw_pc0388_01.wellSaid = true := by
 rw [PySem.W.Fast.te9446332074065402090]
 unfold PySem.W.Fast.tw9446332074065402090 PySem.W.Fast.tw17960256430627541270 PySem.W.Fast.tw2436336058641802641 PySem.W.Fast.tw12908688711261696721
 repeat' (with_reducible refine look_both ?_ ?_)
 all_goals as_aux_lemma => kernel_rfl
end Mine
end
section
namespace Mine
open PySem PySem.W PySem.Calls PyProof.Rows
noncomputable section
noncomputable def sB (w : World) (os : OsState) : Shared := ⟨boot_heap w.params, Array.mk [], boot_drawn, boot_toks, os⟩
theorem preq (w : World) (os : OsState) : topGo treeTable pn w 11 annM 12 (sB w os) (topStub pn) = some ((sa w os).abs, ⟨denote treeTable cM, cM, ⟨0, 0, 0, 0⟩, [topFrame qM]⟩) := by
 rw [PySem.W.Fast.te15667345088766844465, PySem.W.Fast.te14364793385576792824, PySem.W.Fast.te11892475500146522536]; kernel_rfl
theorem blkq (w : World) (os : OsState) : segRun treeTable pn w 11 annM 1 1 (sa w os).abs (blockOf bodyM envM cM ⟨0, 0, 0, 0⟩ [topFrame qM]) = some (.next, (sa w os).abs, cM, ⟨0, 0, 0, 0⟩) := by
 rw [PySem.W.Fast.te14374325043358763698, PySem.W.Fast.te14364793385576792824]; kernel_rfl
theorem finq (w : World) (os : OsState) : topRun treeTable pn w 11 annM 2 (sz w os).abs ⟨doneF .next, cM, ⟨960, 0, 977, 15⟩, [topFrame qM]⟩ = some (sz w os).abs := by
 rw [PySem.W.Fast.te14082659384304107361, PySem.W.Fast.te14364793385576792824]; kernel_rfl
theorem unq {w : World} {n : Nat} {s s' : SharedT} {t : Thread} {f : Flow} {c : Code} {q : Pos} (h : PySem.W.Fast.tw10110043849684766642 PySem.W.Fast.tw14364793385576792824 pn w 11 annM 1 n s t = some (f, s', c, q)) : segRun treeTable pn w 11 annM 1 n s.abs t = some (f, s'.abs, c, q) := by
 refine segRun_of ?_
 rw [PySem.W.Fast.te10110043849684766642, PySem.W.Fast.te14364793385576792824]; exact h
theorem bodyq : bodyM = seg 0 8 ++ (seg 8 1 ++ (seg 9 22 ++ (seg 31 17 ++ (seg 48 1 ++ (seg 49 18 ++ (seg 67 32 ++ (seg 99 18 ++ (seg 117 2 ++ (seg 119 1 ++ (seg 120 10 ++ (seg 130 1 ++ (seg 131 10 ++ [])))))))))))) := by kernel_rfl
theorem runq (w : World) (os : OsState) : topRun treeTable pn w 11 annM (12 + (1 + (1163 + (56 + (1104 + (424 + (316 + (1239 + (1130 + (1117 + (262 + (71 + (239 + (1082 + (492 + 2))))))))))))))) (sB w os) (topStub pn) = some (sz w os).abs := by
 refine go_top (preq w os) (piece_block (b := bodyM) (blkq w os) ?_)
 rw [show restOf bodyM = restOf _ from congrArg restOf bodyq]
 exact piece_app (unq (pc0 w os)) (piece_app (unq (pc1 w os)) (piece_app (unq (pc2 w os)) (piece_app (unq (pc3 w os)) (piece_app (unq (pc4 w os)) (piece_app (unq (pc5 w os)) (piece_app (unq (pc6 w os)) (piece_app (unq (pc7 w os)) (piece_app (unq (pc8 w os)) (piece_app (unq (pc9 w os)) (piece_app (unq (pc10 w os)) (piece_app (unq (pc11 w os)) (piece_app (unq (pc12 w os)) (piece_nil (finq w os))))))))))))))
theorem sizeq (w : World) : ((boot_heap w.params).isNs mainGlobals && (Array.mk [] : Array GenState).size == 0, (boot_heap w.params).objs.size, (boot_heap w.params).nsMap mainGlobals "__annotations__") = (true, 11, annM) := by kernel_rfl
end
end Mine
end
section
namespace Mine
open PySem PySem.W PySem.Calls PyProof.Rows
set_option maxHeartbeats 0
noncomputable section
noncomputable def Hz (P : Params) : Heap := absHeap (btGo (lz P) 0 .nil) 1228 life0
noncomputable def sF (w : World) (os : OsState) : Shared := ⟨Hz w.params, #[], {}, 2086, os⟩
theorem lk1 (w : World) : staticsOk (importedModules pn.main.body) (boot_heap w.params) (Hz w.params) = true := by kernel_rfl
theorem lk1b (w : World) : namesBound pn (Hz w.params) = true := by kernel_rfl
theorem lk1c (w : World) (os : OsState) : gensDone (sF w os) = true := by kernel_rfl
theorem lk1d (w : World) : laidKept (boot_heap w.params) (Hz w.params) = true := by kernel_rfl
theorem a1 (w : World) (os : OsState) : seen ((recsOf qv).map (·.name)) (ownsOf qv) [] { sF w os with gens := #[] } = expectedOf qv := by kernel_rfl
theorem a2 (w : World) : (Hz w.params).bltView = bltViewBooted := by kernel_rfl
theorem a3 (w : World) : (Hz w.params).keysOk (looseW qv lq) ((recsOf qv).map (·.name)) ((litsOf qv).map (·.1)) ((clssOf qv (looseW qv lq)).map (·.name)) = true := by kernel_rfl
theorem a4 (w : World) : (Hz w.params).accountedOkI (importedModules pn.main.body) = true := by kernel_rfl
theorem a5 (w : World) : ((Hz w.params).isNs mainGlobals && (Hz w.params).isNs builtinsNs && tablesOk qv (Hz w.params)) = true := by kernel_rfl
theorem a6 (w : World) (os : OsState) : xlAt qv [] (sF w os) = true := by kernel_rfl
theorem a7 (w : World) (os : OsState) : tabsOk qv (sF w os) = true := by kernel_rfl
theorem a8 (w : World) (os : OsState) : pinSeenD qv (drecsOf qv) (sF w os) = pinGoodD (drecsOf qv) := by kernel_rfl
theorem a9 (w : World) (os : OsState) : plainSeenE qv (looseW qv lq) (sF w os) = plainGoodE qv (looseW qv lq) := by kernel_rfl
theorem a10 (w : World) (os : OsState) : plainSeenD qv lq (sF w os) = plainGoodD qv lq := by kernel_rfl
theorem a11 (w : World) (os : OsState) : wideSeen qv (sF w os) = wideGood qv := by kernel_rfl
theorem a12 (w : World) (os : OsState) : clsSeenW qv lq (sF w os) = clsGoodW qv lq := by kernel_rfl
end
end Mine
end
section
namespace Mine
open PySem PySem.W PySem.Calls PyProof.Rows
set_option maxHeartbeats 400000
noncomputable section
noncomputable def Xq (s : Shared) : Bool := xlAt qv [] s
theorem a13 : (if true then ((#[] : Array GenState).size == 0) else !leftWithCleanup (#[] : Array GenState)) = true := rfl
theorem lk2 (w : World) (os : OsState) : openSeen qv lq (importedModules pn.main.body) Xq true (sF w os) = openGood qv lq := by
 have h3 : ((Hz w.params).keysOk (looseW qv lq) ((recsOf qv).map (·.name)) ((litsOf qv).map (·.1)) ((clssOf qv (looseW qv lq)).map (·.name)) && (Hz w.params).accountedOkI (importedModules pn.main.body) && (Hz w.params).isNs mainGlobals && (Hz w.params).isNs builtinsNs && tablesOk qv (Hz w.params) && Xq (sF w os) && (if true then (sF w os).gens.size == 0 else !leftWithCleanup (sF w os).gens)) = true := by
  have h5 := Bool.and_eq_true_iff.mp (a5 w)
  have h6 := Bool.and_eq_true_iff.mp h5.1
  exact look_both (look_both (look_both (look_both (look_both (look_both (a3 w) (a4 w)) h6.1) h6.2) h5.2) (a6 w os)) a13
 exact looks_pair (a1 w os) (looks_pair (a2 w) (looks_pair h3 (looks_pair (a7 w os) (looks_pair (a8 w os) (looks_pair (a9 w os) (looks_pair (a10 w os) (looks_pair (a11 w os) (a12 w os))))))))
theorem sB_eq (w : World) (os : OsState) : sB w os = ⟨boot_heap w.params, Array.mk [], boot_drawn, boot_toks, os⟩ := rfl
theorem sZ_eq (w : World) (os : OsState) : (sz w os).abs = ⟨Hz w.params, #[], {}, 2086, os⟩ := by kernel_rfl
noncomputable def Mq : Nat := 12 + (1 + (1163 + (56 + (1104 + (424 + (316 + (1239 + (1130 + (1117 + (262 + (71 + (239 + (1082 + (492 + 2))))))))))))))
theorem run2 (w : World) (os : OsState) : topRun treeTable pn w 11 annM Mq ⟨boot_heap w.params, Array.mk [], boot_drawn, boot_toks, os⟩ (topStub pn) = some ⟨Hz w.params, #[], {}, 2086, os⟩ :=
 (congrArg (fun x => topRun treeTable pn w 11 annM Mq x (topStub pn)) (sB_eq w os)).symm.trans ((runq w os).trans (congrArg some (sZ_eq w os)))
theorem leftq : LeftO pn qv lq Xq (fun s => s.heap) (fun w => Hz w.params) 20000 := by
 refine LeftO.of_pieces (H₀ := boot_heap) (H₁ := Hz) (gs₀ := Array.mk []) (gs₁ := #[]) (d₀ := boot_drawn) (d₁ := {}) (k₀ := boot_toks) (k₁ := 2086) (m₀ := 11) (ann := annM) (M := Mq)
  (boot_open opq (by decide +kernel) fenq) sizeq run2 (by decide +kernel) fun w => funext fun os => ?_
 have h : (staticsOk (importedModules pn.main.body) (boot_heap w.params) (Hz w.params) && namesBound pn (Hz w.params) && gensDone (sF w os) && laidKept (boot_heap w.params) (Hz w.params)) = true := by
  rw [lk1, lk1b, lk1c, lk1d]; rfl
 exact looks_pair h (looks_pair (lk2 w os) rfl)
end
end Mine
end
section
namespace Mine
open PySem PySem.W PySem.Calls PyProof.Rows
noncomputable section
noncomputable def Kh (P : Params) : Frag := (1, o1 P) :: K0 P
theorem khq (P : Params) : (Kh P).map (fun p => (Hz P).get? p.1) = (Kh P).map (fun p => some p.2) := by kernel_rfl
theorem kh_in (P : Params) : (Kh P).In (Hz P) := Frag.in_of (as := (Kh P).map (·.1)) rfl (by rw [List.map_map]; exact khq P)
theorem k0_no (P : Params) : (K0 P).lookup 1 = none := by kernel_rfl
theorem k0_of {P : Params} {h : Heap} (X : (Kh P).In h) : (K0 P).In h ∧ h.get? 1 = some (o1 P) := by
 refine ⟨fun a o e => X a o ?_, X 1 _ rfl⟩
 by_cases ha : a = 1
 · subst ha; rw [k0_no] at e; cases e
 · show List.lookup a ((1, o1 P) :: K0 P) = some o
   rw [List.lookup_cons, show (a == 1) = false from beq_eq_false_iff_ne.mpr ha]; exact e
theorem k0_list (P : Params) : (K0 P).all (fun p => match p.2.cls with | .type t => !(t == "list") | _ => true) = true := by kernel_rfl
theorem mem_of_look {K : Frag} {a : Addr} {o : Obj} (h : K.lookup a = some o) : (a, o) ∈ K := by
 induction K with
 | nil => cases h
 | cons p K ih =>
  obtain ⟨b, x⟩ := p
  rw [List.lookup_cons] at h
  cases hb : a == b with
  | true => rw [hb] at h; cases h; rw [eq_of_beq hb]; exact .head _
  | false => rw [hb] at h; exact .tail _ (ih h)
theorem k0_ne {P : Params} {h : Heap} {a b : Addr} {o : Obj} {vs : List Value} (X : (K0 P).In h) (ha : h.get? a = some (lstOf vs 0)) (hb : (K0 P).lookup b = some o) : b ≠ a := by
 rintro rfl
 have e := X b o hb
 rw [ha] at e; cases e
 have := List.all_eq_true.mp (k0_list P) _ (mem_of_look hb)
 cases this
section
variable {S : Stage} {n : Nat} {sc : Scope} {ns : List (Option PySem.Str)}
theorem ints_rvs {G : Led} {ad : List Addr} : ∀ {is : List Int} {vs : List Value}, All2 (fun i c => ∃ t, c = Value.int i t) is vs → Rvs S G ad (is.map V.int) vs := fun r => by
 induction r with
 | nil => exact .nil
 | cons p r ih => obtain ⟨t, e⟩ := p; subst e; exact .cons (.int _ _) ih
theorem enter_top {f a : Addr} {body : List Stmt} {fd : FuncData} {d : DS} (X : Def S f ns sc body fd) (k : Nat) (hS : SS S n sc ns body d) {A : Around} {R : Result → Shared → Prop} {st' : St} {s : Shared} {is : List Int} {vs : List Value}
 (hA : Room (n + 1) A) (K₁ : S.K.In s.heap) (T : TopRead S.p S.loose S.mg S.mb s.heap) (ne : ∀ b o, S.K.lookup b = some o → b ≠ a) (ha : s.heap.get? a = some (lstOf vs 0)) (hsys : ∃ o, s.heap.get? sysModules = some o) (hne : sysModules ≠ a)
 (hi : All2 (fun i c => ∃ t, c = Value.int i t) is vs) (hg : s.gens = S.gens) (hdr : s.drawn = S.drawn) (hos : s.os = S.os) (hb : Binds S f ⟨[.ref a], []⟩ [.ref a]) (he : fnD k d [Mine.sc is] ⟨.nil, 0⟩ = .ok (.bool true) st')
 (q : ∀ s', (∀ b o, s.heap.get? b = some o → s'.heap.get? b = some o) → s'.gens = S.gens → s'.os = S.os → R (.ok (.ret (.bool true))) s') :
 codeAny (model S.prog S.w) A (.call (.ref f) ⟨[.ref a], []⟩) R s := by
 have hget : ∀ b o, s.heap.get? b = some o → b ≠ a → (hideAll s.heap [a]).get? b = some o := fun b o e h => hideAll_get _ e (by simpa using h)
 have hns : ∀ {b : Addr} {m : PySem.Str → Option Value}, s.heap.Ns b m → (hideAll s.heap [a]).Ns b m := by
  rintro b m ⟨o, es, ep, h1, h2, h3⟩
  refine ⟨o, es, ep, hget _ _ h1 ?_, h2, h3⟩
  rintro rfl
  rw [ha] at h1; cases h1; cases h2
 have top' : TopRead S.p S.loose S.mg S.mb (hideAll s.heap [a]) := ⟨hns T.g, hns T.b, let ⟨mc, h1, h2⟩ := T.nolimit; ⟨mc, hns h1, h2⟩, T.builtins, T.free⟩
 obtain ⟨os, hos'⟩ := hsys
 refine callee (G := [(a, lstOf vs 0)]) (D := []) (ad := []) X k hS hA K₁ T.nolimit (fun b o e => hget b o (K₁ b o e) (ne b o e)) top' ⟨os, hget _ _ hos' hne⟩ (fun p hp => ?_) (fun p zz q hq => nomatch hq) .nil ⟨rfl, rfl, fun i o h => ?_⟩ hg hdr hos hb (.cons (.lst _ vs a 0 (.inl (.head _)) (ints_rvs hi)) .nil) he ?_
 · have : p = (a, lstOf vs 0) := by simpa using hp
   subst this; exact ha
 · rw [atT_nil] at h; cases h
 · intro env v' cv s' m' G' D' C' ad' R₃ g3 _ ev r3
   subst ev
   cases r3
   refine q s' (fun b o e => ?_) R₃.gens R₃.os
   by_cases hba : b = a
   · subst hba
     rw [ha] at e; cases e
     exact (R₃.nw _ (List.mem_append_left _ (g3 (.head _)))).1
   · exact R₃.fr.keep b o (hget b o e hba)
end
end
end Mine
end
section
namespace Mine
open PySem PySem.W PySem.Calls PyProof.Rows
noncomputable section
theorem pre_len {xs : List WData} (h : rw0.row.toRowW.pre.holds [] { args := [.list xs] } = true) : xs.length ≤ 63 := by
 have e : rw0.row.toRowW.pre = .and (.not (.lt (.lit (.int 63)) (.len (.arg 0)))) (.lit (.bool true)) := rfl
 rw [e] at h
 obtain ⟨h1, _⟩ := holds_andW h
 have e2 : (WTm.not (.lt (.lit (.int 63)) (.len (.arg 0)))).value [] { args := [.list xs] } = some (.bool (!decide ((63 : Int) < (xs.length : Int)))) := rfl
 unfold WTm.holds at h1
 rw [e2] at h1
 by_cases hl : (63 : Int) < (xs.length : Int)
 · rw [decide_eq_true hl] at h1; cases h1
 · omega
theorem well_ints {P : Params} {h : Heap} : ∀ {vs : List Value} {ns : List Int}, WellAll P h vs (ns.map WData.int) → All2 (fun i c => ∃ t, c = Value.int i t) ns vs
 | _, [], w => by cases w; exact .nil
 | _, n :: ns, w => by
  cases w with
  | cons a r => cases a; exact .cons ⟨_, rfl⟩ (well_ints r)
theorem args_of {P : Params} {h : Heap} {args : List WData} {vals : List Value} (hp : rw0.row.toRowW.claim.pre args = true) (hw : WellAll P h vals args) :
 ∃ (ns : List Int) (vs : List Value) (a : Addr), args = [.list (ns.map .int)] ∧ vals = [.ref a] ∧ ns.length ≤ 63 ∧ h.get? a = some (lstOf vs 0) ∧ All2 (fun i c => ∃ t, c = Value.int i t) ns vs := by
 obtain ⟨p1, p2⟩ := pre_splitW hp
 obtain ⟨d, r, rfl, h1, h2⟩ := hasAllW_cons (show WShape.hasAll [] args [.list .int] = true from p1)
 obtain rfl := hasAllW_nil h2
 obtain ⟨xs, rfl, h3⟩ := hasW_list h1
 obtain ⟨ns, rfl⟩ := items_int h3
 have hl : (ns.map WData.int).length ≤ 63 := pre_len p2
 cases hw with
 | cons w1 w2 =>
  cases w2
  cases w1 with
  | list g w3 => exact ⟨ns, _, _, rfl, rfl, by simpa using hl, g, well_ints w3⟩
theorem law_at {P : Params} {h : Heap} {mg : PySem.Str → Option Value} (X : (K0 P).In h) (g : h.Ns mainGlobals mg) : mg "law" = some (.ref 1227) := by
 obtain ⟨o, es, ep, h1, h2, _, h4⟩ := g
 have h5 := X 3 _ (show (K0 P).lookup 3 = some (o740 P) by kernel_rfl)
 have h1 : h.get? 3 = some o := h1
 rw [h5] at h1; cases h1
 rw [← h4]
 have e : nsFind (match (o740 P).data with | .dict es _ => es | _ => #[]) "law" = some (.ref 1227) := by kernel_rfl
 rw [h2] at e; exact e
theorem room : Room 11 callerA := ⟨rfl, by decide +kernel, by decide +kernel⟩
theorem walkq : WalkO qv lq (XL qv []) (fun w h => (Kh w.params).In h) rw0.row.toRowW dq.1 dq.2 fun f vs => PySem.call f vs := by
 intro w s₀ s₁ mg mb G Y a o pm cd doc dV kV ho hd hcd hD hmg hg args vals as hpre hlay hrd hwl hlo
 obtain ⟨K₁, hs⟩ := k0_of Y
 obtain ⟨ns, vs, l, rfl, rfl, hl, hget, hall⟩ := args_of hpre hwl
 have e1 : dq.1.name = "law" := defOf_name defq
 rw [e1, law_at K₁ G.T.g] at hmg
 cases hmg
 have hal : sysModules ≠ l := by
  rintro rfl
  have hs : s₁.heap.get? sysModules = some (o1 w.params) := hs
  rw [hs] at hget
  exact absurd (show Value.type "dict" = .type "list" from congrArg Obj.cls (Option.some.inj hget)) (by decide)
 obtain ⟨st', hlaw⟩ := law_true ns hl
 refine enter_call ?_
 obtain ⟨fd, hdef⟩ := d108 ⟨rw0.row.toRowW.prog, qv, w, looseW qv lq, mg, mb, s₁.gens, s₁.drawn, s₁.os⟩
 refine enter_top (S := st ⟨rw0.row.toRowW.prog, qv, w, looseW qv lq, mg, mb, s₁.gens, s₁.drawn, s₁.os⟩) hdef _ (w108 _) room K₁ (topRead_of G.T) (fun b o e => k0_ne K₁ hget e) hget ⟨_, hs⟩ hal hall rfl rfl rfl (bi108 _ _ rfl) hlaw fun s' hk h1 h2 => ?_
 exact ⟨.inl ⟨_, .bool true, [], rfl, fun zz => rfl, .bool true, postW_of rfl rfl (same_self _), fun zz => ⟨.nil, nofun⟩⟩, .of_keep hk, h2, .of_eq (h1.trans hg)⟩
end
end Mine
theorem PySem.Challenge.cw_pc0388_01_holds : PySem.Challenge.rw_pc0388_01.Holds := by
 refine PySem.W.holds_law Mine.wS fun said => PySem.W.holds_open (r := Mine.rw0.row) (q := Mine.qv) (loose := Mine.lq) (Xt := Mine.Xq) (XP := PySem.W.XL Mine.qv []) (Yf := fun s => s.heap) (Ya := fun w => Mine.Hz w.params) (YP := fun w h => (Mine.Kh w.params).In h) (N := 20000)
  Mine.leftq (fun w s e => e ▸ Mine.kh_in w.params) (fun w h h' x k => x.keeps k) (fun s e => PySem.W.xl_of s e) PySem.W.XL.keeps Mine.defq Mine.thq Mine.kwq (fun s zz => PySem.W.recFacts_nil rfl) rfl said Mine.okq Mine.bareq Mine.promq Mine.walkq
end
