import PyProof.Rows.All
import Wide.All
import OpenK.AllK
import Wide.FinOn
import PySem.Challenge.RW_xm0431_01
set_option Elab.async false
set_option linter.unusedVariables false
-- GCore
noncomputable section
namespace Goo
inductive D where
  | int (i : Int) | bool (b : Bool) | none | fn (k : Nat) | list (xs : List D) | tup (xs : List D) | ref (i : Nat) | undef
inductive Ob where
  | fz (xs : List D) | ow (xs : List D)
structure St where
  v0 : D
  v1 : D
  v2 : D
  v3 : D
  v4 : D
  v5 : D
  v6 : D
  v7 : D
  v8 : D
  v9 : D
  v10 : D
  v11 : D
  objs : List Ob
inductive RE where
  | no | ok (d : D) (σ : St)
inductive RT where
  | no | tt (σ : St) | ff (σ : St)
inductive RS where
  | no | nx (σ : St) | bk (σ : St) | rt (d : D) (σ : St)
inductive RL where
  | no | ok (ds : List D) (σ : St)
inductive RO (α : Type) where
  | no | ok (a : α)
abbrev EM := St → RE
abbrev TM := St → RT
abbrev SM := St → RS
abbrev IM := St → RL
abbrev BM := D → D → EM
abbrev CM := D → D → St → RO Bool
abbrev CF := List D → RO D
abbrev RF := List D → List D → RO (D × List D)

section el
variable {α : Type}
def RE.el (r : RE) (z : α) (k : D → St → α) : α := RE.rec (motive := fun _ => α) z k r
def RT.el (r : RT) (z : α) (t f : St → α) : α := RT.rec (motive := fun _ => α) z t f r
def RL.el (r : RL) (z : α) (k : List D → St → α) : α := RL.rec (motive := fun _ => α) z k r
def RO.el {β : Type} (r : RO β) (z : α) (k : β → α) : α := RO.rec (motive := fun _ => α) z k r
def D.onI (d : D) (z : α) (k : Int → α) : α := D.casesOn (motive_1 := fun _ => α) d k (fun _ => z) z (fun _ => z) (fun _ => z) (fun _ => z) (fun _ => z) z
def D.onR (d : D) (z : α) (k : Nat → α) : α := D.casesOn (motive_1 := fun _ => α) d (fun _ => z) (fun _ => z) z (fun _ => z) (fun _ => z) (fun _ => z) k z
def D.onT (d : D) (z : α) (k : List D → α) : α := D.casesOn (motive_1 := fun _ => α) d (fun _ => z) (fun _ => z) z (fun _ => z) (fun _ => z) k (fun _ => z) z
def D.onL (d : D) (z : α) (k : List D → α) : α := D.casesOn (motive_1 := fun _ => α) d (fun _ => z) (fun _ => z) z (fun _ => z) k (fun _ => z) (fun _ => z) z
def D.onS (d : D) (z : α) (k : List D → α) : α := D.casesOn (motive_1 := fun _ => α) d (fun _ => z) (fun _ => z) z (fun _ => z) k k (fun _ => z) z
def D.onF (d : D) (z : α) (k : Nat → α) : α := D.casesOn (motive_1 := fun _ => α) d (fun _ => z) (fun _ => z) z k (fun _ => z) (fun _ => z) (fun _ => z) z
def D.onN (d : D) (z k : α) : α := D.casesOn (motive_1 := fun _ => α) d (fun _ => z) (fun _ => z) k (fun _ => z) (fun _ => z) (fun _ => z) (fun _ => z) z
def D.onU (d : D) (z k : α) : α := D.casesOn (motive_1 := fun _ => α) d (fun _ => k) (fun _ => k) k (fun _ => k) (fun _ => k) (fun _ => k) (fun _ => k) z
def onB (b : Bool) (t f : α) : α := Bool.rec (motive := fun _ => α) f t b
def onZ (i : Int) (p n : Nat → α) : α := Int.rec (motive := fun _ => α) p n i
def onNat (n : Nat) (z : α) (s : Nat → α) : α := Nat.rec (motive := fun _ => α) z (fun p _ => s p) n
def forceN (n : Nat) (k : Nat → α) : α := Nat.rec (motive := fun _ => α) (k 0) (fun p _ => k (Nat.succ p)) n
def forceI (i : Int) (k : Int → α) : α := Int.rec (motive := fun _ => α) (fun n => forceN n fun m => k (.ofNat m)) (fun n => forceN n fun m => k (.negSucc m)) i
def forceL {β : Type} (xs : List β) (k : List β → α) : α := List.rec (motive := fun _ => (List β → α) → α) (fun k => k []) (fun x _ ih k => ih fun r => k (x :: r)) xs k
def nthK {β : Type} (xs : List β) (n : Nat) (z : α) (k : β → α) : α :=
  List.rec (motive := fun _ => Nat → α) (fun _ => z) (fun x _ ih n => onNat n (k x) ih) xs n
def lsetK {β : Type} (xs : List β) (n : Nat) (v : β) (k : List β → α) : α :=
  List.rec (motive := fun _ => Nat → (List β → α) → α) (fun _ k => k []) (fun x r ih n k => onNat n (k (v :: r)) fun n => ih n fun r => k (x :: r)) xs n k
def appK {β : Type} (xs ys : List β) (k : List β → α) : α :=
  List.rec (motive := fun _ => (List β → α) → α) (fun k => k ys) (fun x _ ih k => ih fun r => k (x :: r)) xs k
end el
def len {β : Type} (xs : List β) : Nat := List.rec (motive := fun _ => Nat) 0 (fun _ _ n => Nat.succ n) xs
-- ints by their two halves, on the kernel's own numbers
def subNN (a b : Nat) : Int := onB (Nat.ble b a) (.ofNat (Nat.sub a b)) (.negSucc (Nat.pred (Nat.sub b a)))
def zadd (x y : Int) : Int := onZ x (fun a => onZ y (fun b => .ofNat (Nat.add a b)) fun b => subNN a (Nat.succ b)) fun a => onZ y (fun b => subNN b (Nat.succ a)) fun b => .negSucc (Nat.succ (Nat.add a b))
def zsub (x y : Int) : Int := onZ x (fun a => onZ y (fun b => subNN a b) fun b => .ofNat (Nat.add a (Nat.succ b))) fun a => onZ y (fun b => .negSucc (Nat.add a b)) fun b => subNN b a
def zneg (x : Int) : Int := onZ x (fun a => onNat a (.ofNat 0) fun p => .negSucc p) fun a => .ofNat (Nat.succ a)
def zlt (x y : Int) : Bool := onZ x (fun a => onZ y (fun b => Nat.ble (Nat.succ a) b) fun _ => false) fun a => onZ y (fun _ => true) fun b => Nat.ble (Nat.succ b) a
def zle (x y : Int) : Bool := onZ x (fun a => onZ y (fun b => Nat.ble a b) fun _ => false) fun a => onZ y (fun _ => true) fun b => Nat.ble b a
def zeq (x y : Int) : Bool := onZ x (fun a => onZ y (fun b => Nat.beq a b) fun _ => false) fun a => onZ y (fun _ => false) fun b => Nat.beq a b

structure Lens where
  g : St → D
  s : D → St → St
def St.rc (σ : St) (k : D → D → D → D → D → D → D → D → D → D → D → D → List Ob → St) : St := St.rec (motive := fun _ => St) k σ
def x0 : Lens := ⟨St.v0, fun w σ => σ.rc fun a b c d e f g h i j k l o => ⟨w, b, c, d, e, f, g, h, i, j, k, l, o⟩⟩
def x1 : Lens := ⟨St.v1, fun w σ => σ.rc fun a b c d e f g h i j k l o => ⟨a, w, c, d, e, f, g, h, i, j, k, l, o⟩⟩
def x2 : Lens := ⟨St.v2, fun w σ => σ.rc fun a b c d e f g h i j k l o => ⟨a, b, w, d, e, f, g, h, i, j, k, l, o⟩⟩
def x3 : Lens := ⟨St.v3, fun w σ => σ.rc fun a b c d e f g h i j k l o => ⟨a, b, c, w, e, f, g, h, i, j, k, l, o⟩⟩
def x4 : Lens := ⟨St.v4, fun w σ => σ.rc fun a b c d e f g h i j k l o => ⟨a, b, c, d, w, f, g, h, i, j, k, l, o⟩⟩
def x5 : Lens := ⟨St.v5, fun w σ => σ.rc fun a b c d e f g h i j k l o => ⟨a, b, c, d, e, w, g, h, i, j, k, l, o⟩⟩
def x6 : Lens := ⟨St.v6, fun w σ => σ.rc fun a b c d e f g h i j k l o => ⟨a, b, c, d, e, f, w, h, i, j, k, l, o⟩⟩
def x7 : Lens := ⟨St.v7, fun w σ => σ.rc fun a b c d e f g h i j k l o => ⟨a, b, c, d, e, f, g, w, i, j, k, l, o⟩⟩
def x8 : Lens := ⟨St.v8, fun w σ => σ.rc fun a b c d e f g h i j k l o => ⟨a, b, c, d, e, f, g, h, w, j, k, l, o⟩⟩
def x9 : Lens := ⟨St.v9, fun w σ => σ.rc fun a b c d e f g h i j k l o => ⟨a, b, c, d, e, f, g, h, i, w, k, l, o⟩⟩
def x10 : Lens := ⟨St.v10, fun w σ => σ.rc fun a b c d e f g h i j k l o => ⟨a, b, c, d, e, f, g, h, i, j, w, l, o⟩⟩
def x11 : Lens := ⟨St.v11, fun w σ => σ.rc fun a b c d e f g h i j k l o => ⟨a, b, c, d, e, f, g, h, i, j, k, w, o⟩⟩
def St.setO (σ : St) (os : List Ob) : St := σ.rc fun a b c d e f g h i j k l _ => ⟨a, b, c, d, e, f, g, h, i, j, k, l, os⟩

def Ob.con {α : Type} (o : Ob) (k : List D → α) : α := Ob.rec (motive := fun _ => α) k k o
def Ob.onO {α : Type} (o : Ob) (z : α) (k : List D → α) : α := Ob.rec (motive := fun _ => α) (fun _ => z) k o
-- the contents of a list value
def cont {α : Type} (σ : St) (d : D) (z : α) (k : List D → α) : α :=
  D.casesOn (motive_1 := fun _ => α) d (fun _ => z) (fun _ => z) z (fun _ => z) k (fun _ => z) (fun i => nthK σ.objs i z fun o => o.con k) z
def frz (d : D) : EM := fun σ => d.onR (d.onU .no (.ok d σ)) fun i => nthK σ.objs i .no fun o => o.con fun xs => lsetK σ.objs i (.fz xs) fun os => .ok (.list xs) (σ.setO os)
def newL (xs : List D) : EM := fun σ => forceL xs fun xs => onB (Nat.ble (len xs) 1000) (appK σ.objs [.ow xs] fun os => forceN (len σ.objs) fun i => .ok (.ref i) (σ.setO os)) .no
def putL (i : Nat) (xs : List D) (σ : St) : St := lsetK σ.objs i (.ow xs) fun os => σ.setO os
def retI (z : Int) : EM := fun σ => forceI z fun z => .ok (.int z) σ
def retL (xs : List D) : EM := fun σ => forceL xs fun xs => .ok (.list xs) σ

def eV (x : Lens) : EM := fun σ => D.casesOn (motive_1 := fun _ => RE) (x.g σ) (fun i => .ok (.int i) σ) (fun b => .ok (.bool b) σ) (.ok .none σ) (fun k => .ok (.fn k) σ) (fun xs => .ok (.list xs) σ) (fun xs => .ok (.tup xs) σ) (fun i => .ok (.ref i) σ) .no
def eI (n : Nat) : EM := fun σ => retI (.ofNat n) σ
def eB (b : Bool) : EM := fun σ => .ok (.bool b) σ
def eN : EM := fun σ => .ok .none σ
def eG (k : Nat) : EM := fun σ => .ok (.fn k) σ
def eBin (op : BM) (f g : EM) : EM := fun σ => (f σ).el .no fun a σ => (g σ).el .no fun b σ => op a b σ
def small (x : Int) : Bool := onZ x (fun n => Nat.ble n (Nat.pow 2 60)) fun n => Nat.ble n (Nat.pow 2 60)
def iBin (h : Int → Int → EM) : BM := fun a b σ => a.onI .no fun x => b.onI .no fun y => h x y σ
def nBin (h : Nat → Nat → EM) : BM := iBin fun x y σ => onZ x (fun x => onZ y (fun y => h x y σ) fun _ => .no) fun _ => .no
def bAdd : BM := fun a b σ => a.onI (cont σ a .no fun xs => cont σ b .no fun ys => newL (List.append xs ys) σ) fun x => b.onI .no fun y => retI (zadd x y) σ
def bIAdd : BM := iBin fun x y => retI (zadd x y)
def bSub : BM := iBin fun x y => retI (zsub x y)
def repl (n : Nat) (x : D) : List D := Nat.rec (motive := fun _ => List D) [] (fun _ r => x :: r) n
def zmul (x y : Int) : Int := onZ x (fun a => onZ y (fun b => .ofNat (Nat.mul a b)) fun b => zneg (.ofNat (Nat.mul a (Nat.succ b)))) fun a => onZ y (fun b => zneg (.ofNat (Nat.mul (Nat.succ a) b))) fun b => .ofNat (Nat.mul (Nat.succ a) (Nat.succ b))
def bMul : BM := fun a b σ => b.onI .no fun y => a.onI
  (a.onR .no fun i => nthK σ.objs i .no fun o => onZ y (fun n => o.con fun xs => List.casesOn (motive := fun _ => RE) xs .no fun x r => List.casesOn (motive := fun _ => RE) r (onB (Nat.ble n 1000) (newL (repl n x) σ) .no) fun _ _ => .no) fun _ => .no)
  fun x => onB (small x) (onB (small y) (retI (zmul x y) σ) .no) .no
def bDiv : BM := nBin fun x y σ => onNat y .no fun p => onB (Nat.ble p (Nat.pow 2 28)) (retI (.ofNat (Nat.div x (Nat.succ p))) σ) .no
def bMod : BM := nBin fun x y σ => onNat y .no fun p => retI (.ofNat (Nat.mod x (Nat.succ p))) σ
def bShl : BM := nBin fun x n σ => onB (Nat.ble x (Nat.pow 2 60)) (onB (Nat.ble n 1000) (retI (.ofNat (Nat.shiftLeft x n)) σ) .no) .no
def bShr : BM := nBin fun x n σ => retI (.ofNat (Nat.shiftRight x n)) σ
def bAnd : BM := nBin fun x n σ => retI (.ofNat (Nat.land x n)) σ
def bOr : BM := nBin fun x n σ => retI (.ofNat (Nat.lor x n)) σ
def bPow : BM := nBin fun x n σ => onB (Nat.ble x (Nat.pow 2 20)) (onB (Nat.ble n 100) (retI (.ofNat (Nat.pow x n)) σ) .no) .no
def bMin : BM := iBin fun x y => retI (onB (zlt y x) y x)
def eNeg (f : EM) : EM := fun σ => (f σ).el .no fun a σ => a.onI .no fun x => retI (zneg x) σ
def eIf (t : TM) (f g : EM) : EM := fun σ => (t σ).el .no f g
def eT (t : TM) : EM := fun σ => (t σ).el .no (fun σ => .ok (.bool true) σ) fun σ => .ok (.bool false) σ
def eLen (f : EM) : EM := fun σ => (f σ).el .no fun a σ => cont σ a .no fun xs => retI (.ofNat (len xs)) σ
def eBL (f : EM) : EM := fun σ => (f σ).el .no fun a σ => a.onI .no fun x => onZ x (fun n => onB (Nat.ble n (Nat.pow 2 60)) (retI (.ofNat (onNat n 0 fun p => Nat.succ (Nat.log2 (Nat.succ p)))) σ) .no) fun _ => .no
def eTupOf (f : EM) : EM := fun σ => (f σ).el .no fun a σ => cont σ a .no fun xs => .ok (.tup xs) σ
def getI {α : Type} (xs : List D) (k : Int) (z : α) (h : D → α) : α := onZ k (fun n => nthK xs n z h) fun n => onB (Nat.ble (Nat.succ n) (len xs)) (nthK xs (Nat.sub (len xs) (Nat.succ n)) z h) z
def bIdx : BM := fun a b σ => b.onI .no fun k => cont σ a .no fun xs => getI xs k .no fun x => .ok x σ
def clip (n : Nat) (k : Int) : Nat := onZ k (fun k => onB (Nat.ble k n) k n) fun k => onB (Nat.ble (Nat.succ k) n) (Nat.sub n (Nat.succ k)) 0
def part {α : Type} (d : D) (n dflt : Nat) (z : α) (k : Nat → α) : α := d.onI (d.onN z (k dflt)) fun i => k (clip n i)
def dropR (xs : List D) (n : Nat) : List D := List.rec (motive := fun _ => Nat → List D) (fun _ => []) (fun x r ih n => onNat n (x :: r) ih) xs n
def takeR (xs : List D) (n : Nat) : List D := List.rec (motive := fun _ => Nat → List D) (fun _ => []) (fun x _ ih n => onNat n [] fun n => x :: ih n) xs n
-- an absent part is eN
def eSl (f lo hi : EM) : EM := fun σ => (f σ).el .no fun a σ => (lo σ).el .no fun l σ => (hi σ).el .no fun h σ => cont σ a .no fun xs =>
  part l (len xs) 0 .no fun i => part h (len xs) (len xs) .no fun j => retL (takeR (dropR xs i) (Nat.sub j i)) σ
def revR (xs : List D) : List D := List.rec (motive := fun _ => List D → List D) (fun a => a) (fun x _ ih a => ih (x :: a)) xs []
def eRev (f : EM) : EM := fun σ => (f σ).el .no fun a σ => cont σ a .no fun xs => retL (revR xs) σ
def eAll (fs : List EM) : IM := List.rec (motive := fun _ => IM) (fun σ => .ok [] σ) (fun f _ ih σ => (f σ).el .no fun a σ => (frz a σ).el .no fun d σ => (ih σ).el .no fun ds σ => .ok (d :: ds) σ) fs
def eList (fs : List EM) : EM := fun σ => (eAll fs σ).el .no fun ds σ => newL ds σ
def eTup (fs : List EM) : EM := fun σ => (eAll fs σ).el .no fun ds σ => .ok (.tup ds) σ
def eCall (c : CF) (fs : List EM) : EM := fun σ => (eAll fs σ).el .no fun ds σ => (c ds).el .no fun d => .ok d σ
def eCallV (x : Lens) (c0 c1 : CF) (fs : List EM) : EM := fun σ => (x.g σ).onF .no fun k => onNat k (eCall c0 fs σ) fun k => onNat k (eCall c1 fs σ) fun _ => .no
def eCallR (c : RF) (x : Lens) (fs : List EM) : EM := fun σ => (x.g σ).onR .no fun i => (eAll fs σ).el .no fun ds σ => nthK σ.objs i .no fun o => o.onO .no fun xs => (c xs ds).el .no fun p => .ok p.1 (putL i p.2 σ)

def allI (xs : List D) : Bool := List.rec (motive := fun _ => Bool) true (fun x _ ih => x.onI false fun _ => ih) xs
def eqI (xs ys : List D) : Bool := List.rec (motive := fun _ => List D → Bool) (fun ys => List.casesOn (motive := fun _ => Bool) ys true fun _ _ => false)
  (fun x _ ih ys => List.casesOn (motive := fun _ => Bool) ys false fun y t => x.onI false fun x => y.onI false fun y => onB (zeq x y) (ih t) false) xs ys
def eqIs (xs ys : List D) : RO Bool := onB (allI xs) (onB (allI ys) (.ok (eqI xs ys)) .no) .no
-- tuples of ints and tuples: the first places that part (0: none; 1: less; 2: greater)
def cmpT (n : Nat) (xs ys : List D) : RO Nat := Nat.rec (motive := fun _ => List D → List D → RO Nat) (fun _ _ => .no) (fun _ ih xs ys =>
  List.casesOn (motive := fun _ => RO Nat) xs (List.casesOn (motive := fun _ => RO Nat) ys (.ok 0) fun _ _ => .ok 1) fun x r =>
  List.casesOn (motive := fun _ => RO Nat) ys (.ok 2) fun y t =>
    x.onI (x.onT .no fun x => y.onT .no fun y => (ih x y).el .no fun c => onNat c (ih r t) fun _ => .ok c)
      fun x => y.onI .no fun y => onB (zeq x y) (ih r t) (onB (zlt x y) (.ok 1) (.ok 2))) n xs ys
def tCmp (op : CM) (f g : EM) : TM := fun σ => (f σ).el .no fun a σ => (g σ).el .no fun b σ => (op a b σ).el .no fun c => onB c (.tt σ) (.ff σ)
def iCmp (h : Int → Int → Bool) : CM := fun a b _ => a.onI .no fun x => b.onI .no fun y => .ok (h x y)
def cLt : CM := fun a b _ => a.onI (a.onT .no fun x => b.onT .no fun y => (cmpT 100 x y).el .no fun c => .ok (Nat.beq c 1)) fun x => b.onI .no fun y => .ok (zlt x y)
def cLe : CM := iCmp zle
def cGt : CM := iCmp fun x y => zlt y x
def cEq : CM := fun a b σ => a.onI (cont σ a .no fun xs => cont σ b .no fun ys => eqIs xs ys) fun x => b.onI .no fun y => .ok (zeq x y)
def cNe : CM := fun a b σ => (cEq a b σ).el .no fun c => .ok (onB c false true)
def cIsN : CM := fun a b _ => b.onN .no (.ok (a.onN false true))
def tAnd (t u : TM) : TM := fun σ => (t σ).el .no u .ff
def tOr (t u : TM) : TM := fun σ => (t σ).el .no .tt u
def tNot (t : TM) : TM := fun σ => (t σ).el .no .ff .tt

def RS.nxt (r : RS) (b : SM) : RS := RS.rec (motive := fun _ => RS) .no b .bk .rt r
def RS.lp (r : RS) (b : SM) : RS := RS.rec (motive := fun _ => RS) .no b .nx .rt r
def sNop : SM := .nx
def sSeq (a b : SM) : SM := fun σ => (a σ).nxt b
def sSet (x : Lens) (f : EM) : SM := fun σ => (f σ).el .no fun a σ => .nx (x.s a σ)
def eVs (fs : List EM) : IM := List.rec (motive := fun _ => IM) (fun σ => .ok [] σ) (fun f _ ih σ => (f σ).el .no fun a σ => (ih σ).el .no fun ds σ => .ok (a :: ds) σ) fs
def setVs (xs : List Lens) (vs : List D) : SM := List.rec (motive := fun _ => List D → SM) (fun vs σ => List.casesOn (motive := fun _ => RS) vs (.nx σ) fun _ _ => .no)
  (fun x _ ih vs σ => List.casesOn (motive := fun _ => RS) vs .no fun v t => ih t (x.s v σ)) xs vs
def sTup (xs : List Lens) (fs : List EM) : SM := fun σ => (eVs fs σ).el .no fun vs σ => setVs xs vs σ
def sTupR (xs : List Lens) (fs : List EM) : SM := fun σ => (eVs fs σ).el .no fun vs σ => setVs xs (revR vs) σ
def sUnp (xs : List Lens) (f : EM) : SM := fun σ => (f σ).el .no fun a σ => a.onT .no fun ds => setVs xs ds σ
def sIdx (x : Lens) (g f : EM) : SM := fun σ => (f σ).el .no fun a σ => (frz a σ).el .no fun d σ => (x.g σ).onR .no fun i => (g σ).el .no fun k σ => k.onI .no fun k =>
  nthK σ.objs i .no fun o => o.onO .no fun xs => onZ k (fun n => onB (Nat.ble (Nat.succ n) (len xs)) (lsetK xs n d fun ys => .nx (putL i ys σ)) .no) fun _ => .no
def sAug (x : Lens) (op : BM) (f : EM) : SM := fun σ => (eV x σ).el .no fun a σ => (f σ).el .no fun b σ => (op a b σ).el .no fun c σ => .nx (x.s c σ)
def sIf (t : TM) (a b : SM) : SM := fun σ => (t σ).el .no a b
def whileN (t : TM) (b : SM) (n : Nat) : SM := Nat.rec (motive := fun _ => SM) (fun _ => .no) (fun _ ih σ => (t σ).el .no (fun σ => (b σ).lp ih) .nx) n
def sWhile (t : TM) (b : SM) : SM := whileN t b 100000
def forD (step : D → SM) (b : SM) (ds : List D) : SM := List.rec (motive := fun _ => SM) .nx (fun x _ ih σ => (step x σ).nxt fun σ => (b σ).lp ih) ds
def numsUp (n : Nat) : Int → List D := Nat.rec (motive := fun _ => Int → List D) (fun _ => []) (fun _ ih a => .int a :: forceI (zadd a (.ofNat 1)) ih) n
def numsDn (n : Nat) : Int → List D := Nat.rec (motive := fun _ => Int → List D) (fun _ => []) (fun _ ih a => .int a :: forceI (zsub a (.ofNat 1)) ih) n
def toN (z : Int) : Nat := onZ z (fun n => n) fun _ => 0
def iR1 (f : EM) : IM := fun σ => (f σ).el .no fun a σ => a.onI .no fun n => onB (small n) (.ok (numsUp (toN n) (.ofNat 0)) σ) .no
def iR2 (f g : EM) : IM := fun σ => (f σ).el .no fun a σ => (g σ).el .no fun b σ => a.onI .no fun a => b.onI .no fun b => onB (small a) (onB (small b) (.ok (numsUp (toN (zsub b a)) a) σ) .no) .no
def iRd (f g : EM) : IM := fun σ => (f σ).el .no fun a σ => (g σ).el .no fun b σ => a.onI .no fun a => b.onI .no fun b => onB (small a) (onB (small b) (.ok (numsDn (toN (zsub a b)) a) σ) .no) .no
def iL (f : EM) : IM := fun σ => (f σ).el .no fun a σ => a.onS .no fun xs => .ok xs σ
def iT (f : EM) : IM := fun σ => (f σ).el .no fun a σ => a.onT .no fun xs => .ok xs σ
def numbered (xs : List D) : Nat → List D := List.rec (motive := fun _ => Nat → List D) (fun _ => []) (fun x _ ih n => .tup [.int (.ofNat n), x] :: forceN (Nat.succ n) ih) xs
def iEn (f : EM) : IM := fun σ => (f σ).el .no fun a σ => a.onL .no fun xs => .ok (numbered xs 0) σ
def set1 (x : Lens) : D → SM := fun d σ => .nx (x.s d σ)
def set2 (x y : Lens) : D → SM := fun d σ => d.onT .no fun ds => setVs [x, y] ds σ
def sFor (step : D → SM) (it : IM) (b : SM) : SM := fun σ => (it σ).el .no fun ds σ => forD step b ds σ
def sRet (f : EM) : SM := fun σ => (f σ).el .no fun a σ => (frz a σ).el .no .rt
def sApp (x : Lens) (f : EM) : SM := fun σ => (x.g σ).onR .no fun i => (f σ).el .no fun a σ => (frz a σ).el .no fun d σ => nthK σ.objs i .no fun o => o.onO .no fun xs => onB (Nat.ble (Nat.succ (len xs)) 1000) (appK xs [d] fun ys => .nx (putL i ys σ)) .no
def sRev (x : Lens) : SM := fun σ => (x.g σ).onR .no fun i => nthK σ.objs i .no fun o => o.onO .no fun xs => forceL (revR xs) fun ys => .nx (putL i ys σ)
def sExp (f : EM) : SM := fun σ => (f σ).el .no fun a σ => a.onN .no (.nx σ)
def sBrk : SM := .bk
def sFail : SM := fun _ => .no

def hd (ds : List D) (k : D → List D → St) : St := List.casesOn (motive := fun _ => St) ds (k .undef []) k
def st0 (ds : List D) (os : List Ob) : St := hd ds fun a ds => hd ds fun b ds => hd ds fun c ds => hd ds fun d ds => hd ds fun e ds => hd ds fun f _ => ⟨a, b, c, d, e, f, .undef, .undef, .undef, .undef, .undef, .undef, os⟩
def RS.out {α : Type} (r : RS) (z : α) (k : D → St → α) : α := RS.rec (motive := fun _ => α) z (k .none) (fun _ => z) k r
def runF (k : Nat) (b : SM) : CF := fun ds => onB (Nat.beq (len ds) k) ((b (st0 ds [])).out .no fun d _ => .ok d) .no
def runR (k : Nat) (b : SM) : RF := fun xs ds => onB (Nat.beq (len ds) k) ((b (st0 (.ref 0 :: ds) [.ow xs])).out .no fun d σ => nthK σ.objs 0 .no fun o => o.onO .no fun ys => .ok (d, ys)) .no
end Goo
end
-- GMir
noncomputable section
namespace Goo
def m_normal : SM := (sSeq (sSet x1 (eLen (eV x0))) (sSeq (sWhile (tAnd (tCmp cGt (eV x1) (eI 0)) (tCmp cEq (eBin bIdx (eV x0) (eBin bSub (eV x1) (eI 1))) (eI 0))) (sSeq (sAug x1 bSub (eI 1)) sNop)) (sSeq (sRet (eSl (eV x0) eN (eV x1))) sNop)))
def c_normal : CF := runF 1 m_normal
def m_nat_of : SM := (sSeq (sIf (tCmp cLt (eV x0) (eI 0)) (sSeq sFail sNop) sNop) (sSeq (sTupR [x3, x2] [(eList []), (eBin bSub (eBin bShl (eI 1) (eV x1)) (eI 1))]) (sSeq (sWhile (tCmp cGt (eV x0) (eI 0)) (sSeq (sApp x2 (eBin bAnd (eV x0) (eV x3))) (sSeq (sAug x0 bShr (eV x1)) sNop))) (sSeq (sRet (eV x2)) sNop))))
def c_nat_of : CF := runF 2 m_nat_of
def m_compare : SM := (sSeq (sIf (tCmp cNe (eLen (eV x0)) (eLen (eV x1))) (sSeq (sRet (eIf (tCmp cLt (eLen (eV x0)) (eLen (eV x1))) (eNeg (eI 1)) (eI 1))) sNop) sNop) (sSeq (sFor (set1 x2) (iRd (eBin bSub (eLen (eV x0)) (eI 1)) (eNeg (eI 1))) (sSeq (sIf (tCmp cNe (eBin bIdx (eV x0) (eV x2)) (eBin bIdx (eV x1) (eV x2))) (sSeq (sRet (eIf (tCmp cLt (eBin bIdx (eV x0) (eV x2)) (eBin bIdx (eV x1) (eV x2))) (eNeg (eI 1)) (eI 1))) sNop) sNop) sNop)) (sSeq (sRet (eI 0)) sNop)))
def c_compare : CF := runF 2 m_compare
def m_add : SM := (sSeq (sIf (tCmp cLt (eLen (eV x0)) (eLen (eV x1))) (sSeq (sTupR [x1, x0] [(eV x1), (eV x0)]) sNop) sNop) (sSeq (sTupR [x5, x4, x3] [(eList []), (eI 0), (eBin bSub (eBin bShl (eI 1) (eV x2)) (eI 1))]) (sSeq (sFor (set1 x6) (iR1 (eLen (eV x1))) (sSeq (sAug x4 bIAdd (eBin bAdd (eBin bIdx (eV x0) (eV x6)) (eBin bIdx (eV x1) (eV x6)))) (sSeq (sApp x3 (eBin bAnd (eV x4) (eV x5))) (sSeq (sAug x4 bShr (eV x2)) sNop)))) (sSeq (sFor (set1 x6) (iR2 (eLen (eV x1)) (eLen (eV x0))) (sSeq (sAug x4 bIAdd (eBin bIdx (eV x0) (eV x6))) (sSeq (sApp x3 (eBin bAnd (eV x4) (eV x5))) (sSeq (sAug x4 bShr (eV x2)) sNop)))) (sSeq (sIf (tCmp cGt (eV x4) (eI 0)) (sSeq (sApp x3 (eV x4)) sNop) sNop) (sSeq (sRet (eV x3)) sNop))))))
def c_add : CF := runF 3 m_add
def m_sub : SM := (sSeq (sIf (tCmp cLt (eCall c_compare [(eV x0), (eV x1)]) (eI 0)) (sSeq sFail sNop) sNop) (sSeq (sTupR [x5, x4, x3] [(eList []), (eI 0), (eBin bShl (eI 1) (eV x2))]) (sSeq (sFor (set1 x6) (iR1 (eLen (eV x0))) (sSeq (sSet x7 (eBin bSub (eBin bSub (eBin bIdx (eV x0) (eV x6)) (eV x4)) (eIf (tCmp cLt (eV x6) (eLen (eV x1))) (eBin bIdx (eV x1) (eV x6)) (eI 0)))) (sSeq (sSet x4 (eIf (tCmp cLt (eV x7) (eI 0)) (eI 1) (eI 0))) (sSeq (sApp x3 (eIf (tCmp cLt (eV x7) (eI 0)) (eBin bAdd (eV x7) (eV x5)) (eV x7))) sNop)))) (sSeq (sRet (eCall c_normal [(eV x3)])) sNop))))
def c_sub : CF := runF 3 m_sub
def m_sub_limb : SM := (sSeq (sRet (eCall c_sub [(eV x0), (eIf (tCmp cGt (eV x1) (eI 0)) (eList [(eV x1)]) (eList [])), (eV x2)])) sNop)
def c_sub_limb : CF := runF 3 m_sub_limb
def m_mul_limb : SM := (sSeq (sIf (tCmp cEq (eV x1) (eI 0)) (sSeq (sRet (eList [])) sNop) sNop) (sSeq (sTupR [x5, x4, x3] [(eList []), (eI 0), (eBin bSub (eBin bShl (eI 1) (eV x2)) (eI 1))]) (sSeq (sFor (set1 x6) (iL (eV x0)) (sSeq (sAug x4 bIAdd (eBin bMul (eV x6) (eV x1))) (sSeq (sApp x3 (eBin bAnd (eV x4) (eV x5))) (sSeq (sAug x4 bShr (eV x2)) sNop)))) (sSeq (sIf (tCmp cGt (eV x4) (eI 0)) (sSeq (sApp x3 (eV x4)) sNop) sNop) (sSeq (sRet (eV x3)) sNop)))))
def c_mul_limb : CF := runF 3 m_mul_limb
def m_divrem_limb : SM := (sSeq (sIf (tCmp cEq (eV x1) (eI 0)) (sSeq sFail sNop) sNop) (sSeq (sTupR [x4, x3] [(eBin bMul (eList [(eI 0)]) (eLen (eV x0))), (eI 0)]) (sSeq (sFor (set1 x5) (iRd (eBin bSub (eLen (eV x0)) (eI 1)) (eNeg (eI 1))) (sSeq (sSet x4 (eBin bOr (eBin bShl (eV x4) (eV x2)) (eBin bIdx (eV x0) (eV x5)))) (sSeq (sIdx x3 (eV x5) (eBin bDiv (eV x4) (eV x1))) (sSeq (sAug x4 bMod (eV x1)) sNop)))) (sSeq (sRet (eTup [(eCall c_normal [(eV x3)]), (eV x4)])) sNop))))
def c_divrem_limb : CF := runF 3 m_divrem_limb
def m_shift_left : SM := (sSeq (sIf (tCmp cEq (eLen (eV x0)) (eI 0)) (sSeq (sRet (eList [])) sNop) sNop) (sSeq (sTupR [x4, x3] [(eBin bDiv (eV x1) (eV x2)), (eBin bMod (eV x1) (eV x2))]) (sSeq (sTupR [x7, x6, x5] [(eBin bMul (eList [(eI 0)]) (eV x3)), (eI 0), (eBin bSub (eBin bShl (eI 1) (eV x2)) (eI 1))]) (sSeq (sFor (set1 x8) (iL (eV x0)) (sSeq (sAug x6 bOr (eBin bShl (eV x8) (eV x4))) (sSeq (sApp x5 (eBin bAnd (eV x6) (eV x7))) (sSeq (sAug x6 bShr (eV x2)) sNop)))) (sSeq (sIf (tCmp cGt (eV x6) (eI 0)) (sSeq (sApp x5 (eV x6)) sNop) sNop) (sSeq (sRet (eV x5)) sNop))))))
def c_shift_left : CF := runF 3 m_shift_left
def m_shift_right : SM := (sSeq (sTupR [x4, x3] [(eBin bDiv (eV x1) (eV x2)), (eBin bMod (eV x1) (eV x2))]) (sSeq (sTupR [x6, x5] [(eList []), (eBin bSub (eBin bShl (eI 1) (eV x2)) (eI 1))]) (sSeq (sFor (set1 x7) (iR2 (eV x3) (eLen (eV x0))) (sSeq (sSet x8 (eIf (tCmp cLt (eBin bAdd (eV x7) (eI 1)) (eLen (eV x0))) (eBin bIdx (eV x0) (eBin bAdd (eV x7) (eI 1))) (eI 0))) (sSeq (sApp x5 (eBin bAnd (eBin bOr (eBin bShr (eBin bIdx (eV x0) (eV x7)) (eV x4)) (eBin bShl (eV x8) (eBin bSub (eV x2) (eV x4)))) (eV x6))) sNop))) (sSeq (sRet (eCall c_normal [(eV x5)])) sNop))))
def c_shift_right : CF := runF 3 m_shift_right
def m_bits : SM := (sSeq (sRet (eIf (tCmp cGt (eLen (eV x0)) (eI 0)) (eBin bAdd (eBin bMul (eBin bSub (eLen (eV x0)) (eI 1)) (eV x1)) (eBL (eBin bIdx (eV x0) (eNeg (eI 1))))) (eI 0))) sNop)
def c_bits : CF := runF 2 m_bits
def m_plain_of : SM := (sSeq (sSet x2 (eI 0)) (sSeq (sFor (set1 x3) (iL (eRev (eV x0))) (sSeq (sSet x2 (eBin bAdd (eBin bShl (eV x2) (eV x1)) (eV x3))) sNop)) (sSeq (sRet (eV x2)) sNop)))
def c_plain_of : CF := runF 2 m_plain_of
def m_check_base : SM := (sSeq (sIf (tCmp cLt (eV x0) (eI 2)) (sSeq sFail sNop) sNop) sNop)
def c_check_base : CF := runF 1 m_check_base
def m_mul_school : SM := (sSeq (sTupR [x4, x3] [(eBin bMul (eList [(eI 0)]) (eBin bAdd (eLen (eV x0)) (eLen (eV x1)))), (eBin bSub (eBin bShl (eI 1) (eV x2)) (eI 1))]) (sSeq (sFor (set2 x5 x6) (iEn (eV x0)) (sSeq (sSet x7 (eI 0)) (sSeq (sFor (set2 x8 x9) (iEn (eV x1)) (sSeq (sAug x7 bIAdd (eBin bAdd (eBin bIdx (eV x3) (eBin bAdd (eV x5) (eV x8))) (eBin bMul (eV x6) (eV x9)))) (sSeq (sIdx x3 (eBin bAdd (eV x5) (eV x8)) (eBin bAnd (eV x7) (eV x4))) (sSeq (sAug x7 bShr (eV x2)) sNop)))) (sSeq (sIdx x3 (eBin bAdd (eV x5) (eLen (eV x1))) (eV x7)) sNop)))) (sSeq (sRet (eCall c_normal [(eV x3)])) sNop)))
def c_mul_school : CF := runF 3 m_mul_school
def m_guessed_limb : SM := (sSeq (sTupR [x5, x4] [(eBin bOr (eBin bShl (eBin bIdx (eV x0) (eI 2)) (eV x3)) (eBin bIdx (eV x0) (eI 1))), (eBin bShl (eI 1) (eV x3))]) (sSeq (sSet x6 (eBin bMin (eBin bDiv (eV x4) (eV x1)) (eBin bSub (eV x5) (eI 1)))) (sSeq (sSet x7 (eBin bSub (eV x4) (eBin bMul (eV x6) (eV x1)))) (sSeq (sWhile (tAnd (tCmp cLt (eV x7) (eV x5)) (tCmp cGt (eBin bMul (eV x6) (eV x2)) (eBin bOr (eBin bShl (eV x7) (eV x3)) (eBin bIdx (eV x0) (eI 0))))) (sSeq (sAug x6 bSub (eI 1)) (sSeq (sAug x7 bIAdd (eV x1)) sNop))) (sSeq (sRet (eV x6)) sNop)))))
def c_guessed_limb : CF := runF 4 m_guessed_limb
def m_take_away : SM := (sSeq (sTupR [x6, x5] [(eI 0), (eBin bShl (eI 1) (eV x4))]) (sSeq (sFor (set2 x7 x8) (iEn (eV x1)) (sSeq (sSet x9 (eBin bSub (eBin bIdx (eV x0) (eBin bAdd (eV x3) (eV x7))) (eBin bMod (eBin bAdd (eBin bMul (eV x2) (eV x8)) (eV x5)) (eV x6)))) (sSeq (sSet x5 (eBin bAdd (eBin bDiv (eBin bAdd (eBin bMul (eV x2) (eV x8)) (eV x5)) (eV x6)) (eIf (tCmp cLt (eV x9) (eI 0)) (eI 1) (eI 0)))) (sSeq (sIdx x0 (eBin bAdd (eV x3) (eV x7)) (eIf (tCmp cLt (eV x9) (eI 0)) (eBin bAdd (eV x9) (eV x6)) (eV x9))) sNop)))) (sSeq (sSet x9 (eBin bSub (eBin bIdx (eV x0) (eBin bAdd (eV x3) (eLen (eV x1)))) (eV x5))) (sSeq (sIdx x0 (eBin bAdd (eV x3) (eLen (eV x1))) (eIf (tCmp cLt (eV x9) (eI 0)) (eBin bAdd (eV x9) (eV x6)) (eV x9))) (sSeq (sRet (eIf (tCmp cLt (eV x9) (eI 0)) (eI 1) (eI 0))) sNop)))))
def c_take_away : RF := runR 4 m_take_away
def m_put_back : SM := (sSeq (sTupR [x5, x4] [(eI 0), (eBin bSub (eBin bShl (eI 1) (eV x3)) (eI 1))]) (sSeq (sFor (set2 x6 x7) (iEn (eV x1)) (sSeq (sAug x4 bIAdd (eBin bAdd (eBin bIdx (eV x0) (eBin bAdd (eV x2) (eV x6))) (eV x7))) (sSeq (sIdx x0 (eBin bAdd (eV x2) (eV x6)) (eBin bAnd (eV x4) (eV x5))) (sSeq (sAug x4 bShr (eV x3)) sNop)))) (sSeq (sIdx x0 (eBin bAdd (eV x2) (eLen (eV x1))) (eBin bAnd (eBin bAdd (eBin bIdx (eV x0) (eBin bAdd (eV x2) (eLen (eV x1)))) (eV x4)) (eV x5))) sNop)))
def c_put_back : RF := runR 3 m_put_back
def m_divide_rows : SM := (sSeq (sSet x3 (eLen (eV x1))) (sSeq (sSet x4 (eBin bMul (eList [(eI 0)]) (eBin bSub (eLen (eV x0)) (eV x3)))) (sSeq (sFor (set1 x5) (iRd (eBin bSub (eBin bSub (eLen (eV x0)) (eV x3)) (eI 1)) (eNeg (eI 1))) (sSeq (sSet x6 (eCall c_guessed_limb [(eSl (eV x0) (eBin bSub (eBin bAdd (eV x5) (eV x3)) (eI 2)) (eBin bAdd (eBin bAdd (eV x5) (eV x3)) (eI 1))), (eBin bIdx (eV x1) (eBin bSub (eV x3) (eI 1))), (eBin bIdx (eV x1) (eBin bSub (eV x3) (eI 2))), (eV x2)])) (sSeq (sIf (tCmp cEq (eCallR c_take_away x0 [(eV x1), (eV x6), (eV x5), (eV x2)]) (eI 1)) (sSeq (sAug x6 bSub (eI 1)) (sSeq (sExp (eCallR c_put_back x0 [(eV x1), (eV x5), (eV x2)])) sNop)) sNop) (sSeq (sIdx x4 (eV x5) (eV x6)) sNop)))) (sSeq (sRet (eV x4)) sNop))))
def c_divide_rows : RF := runR 2 m_divide_rows
def m_divrem_small : SM := (sSeq (sUnp [x3, x4] (eCall c_divrem_limb [(eV x0), (eBin bIdx (eV x1) (eI 0)), (eV x2)])) (sSeq (sRet (eTup [(eV x3), (eIf (tCmp cGt (eV x4) (eI 0)) (eList [(eV x4)]) (eList []))])) sNop))
def c_divrem_small : CF := runF 3 m_divrem_small
def m_divrem_school : SM := (sSeq (sIf (tCmp cEq (eLen (eV x1)) (eI 0)) (sSeq sFail sNop) sNop) (sSeq (sIf (tCmp cLt (eCall c_compare [(eV x0), (eV x1)]) (eI 0)) (sSeq (sRet (eTup [(eList []), (eSl (eV x0) eN eN)])) sNop) sNop) (sSeq (sIf (tCmp cEq (eLen (eV x1)) (eI 1)) (sSeq (sRet (eCall c_divrem_small [(eV x0), (eV x1), (eV x2)])) sNop) sNop) (sSeq (sSet x3 (eBin bSub (eV x2) (eCall c_bits [(eList [(eBin bIdx (eV x1) (eNeg (eI 1)))]), (eV x2)]))) (sSeq (sSet x4 (eCall c_shift_left [(eV x1), (eV x3), (eV x2)])) (sSeq (sSet x5 (eCall c_shift_left [(eV x0), (eV x3), (eV x2)])) (sSeq (sSet x5 (eBin bAdd (eV x5) (eBin bMul (eList [(eI 0)]) (eBin bSub (eBin bAdd (eLen (eV x0)) (eI 1)) (eLen (eV x5)))))) (sSeq (sSet x6 (eCallR c_divide_rows x5 [(eV x4), (eV x2)])) (sSeq (sRet (eTup [(eCall c_normal [(eV x6)]), (eCall c_shift_right [(eCall c_normal [(eV x5)]), (eV x3), (eV x2)])])) sNop)))))))))
def c_divrem_school : CF := runF 3 m_divrem_school
def m_digit_off : SM := (sSeq (sIf (tCmp cLt (eV x1) (eBin bShl (eI 1) (eV x2))) (sSeq (sRet (eCall c_divrem_limb [(eV x0), (eV x1), (eV x2)])) sNop) sNop) (sSeq (sUnp [x4, x5] (eCallV x3 c_mul_school c_divrem_school [(eV x0), (eCall c_nat_of [(eV x1), (eV x2)]), (eV x2)])) (sSeq (sRet (eTup [(eV x4), (eCall c_plain_of [(eV x5), (eV x2)])])) sNop)))
def c_digit_off : CF := runF 4 m_digit_off
def m_digits_plain : SM := (sSeq (sSet x4 (eList [])) (sSeq (sWhile (tCmp cGt (eLen (eV x0)) (eI 0)) (sSeq (sUnp [x0, x5] (eCall c_digit_off [(eV x0), (eV x1), (eV x2), (eV x3)])) (sSeq (sApp x4 (eV x5)) sNop))) (sSeq (sRev x4) (sSeq (sRet (eV x4)) sNop))))
def c_digits_plain : CF := runF 4 m_digits_plain
def m_power : SM := (sSeq (sIf (tCmp cLt (eV x1) (eI 0)) (sSeq sFail sNop) sNop) (sSeq (sSet x4 (eList [(eI 1)])) (sSeq (sFor (set1 x5) (iRd (eBin bSub (eBL (eV x1)) (eI 1)) (eNeg (eI 1))) (sSeq (sSet x4 (eCallV x3 c_mul_school c_divrem_school [(eV x4), (eV x4), (eV x2)])) (sSeq (sIf (tCmp cEq (eBin bAnd (eBin bShr (eV x1) (eV x5)) (eI 1)) (eI 1)) (sSeq (sSet x4 (eCallV x3 c_mul_school c_divrem_school [(eV x4), (eV x0), (eV x2)])) sNop) sNop) sNop))) (sSeq (sRet (eV x4)) sNop))))
def c_power : CF := runF 4 m_power
def m_base_powers : SM := (sSeq (sTupR [x5, x4] [(eList []), (eCall c_nat_of [(eV x1), (eV x2)])]) (sSeq (sWhile (tCmp cLe (eCall c_compare [(eV x5), (eV x0)]) (eI 0)) (sSeq (sApp x4 (eV x5)) (sSeq (sSet x5 (eCallV x3 c_mul_school c_divrem_school [(eV x5), (eV x5), (eV x2)])) sNop))) (sSeq (sRet (eV x4)) sNop)))
def c_base_powers : CF := runF 4 m_base_powers
def m_with_noughts : SM := (sSeq (sRet (eBin bAdd (eBin bMul (eList [(eI 0)]) (eBin bSub (eV x1) (eLen (eV x0)))) (eV x0))) sNop)
def c_with_noughts : CF := runF 2 m_with_noughts
def m_digits_by_powers (rec : CF) : SM := (sSeq (sIf (tOr (tCmp cLe (eLen (eV x0)) (eV x4)) (tCmp cEq (eLen (eV x1)) (eI 0))) (sSeq (sRet (eCall c_digits_plain [(eV x0), (eV x2), (eV x3), (eV x5)])) sNop) sNop) (sSeq (sTupR [x8, x7, x6] [(eBin bIdx (eV x1) (eNeg (eI 1))), (eSl (eV x1) eN (eNeg (eI 1))), (eBin bShl (eI 1) (eBin bSub (eLen (eV x1)) (eI 1)))]) (sSeq (sIf (tCmp cLt (eCall c_compare [(eV x0), (eV x6)]) (eI 0)) (sSeq (sRet (eCall rec [(eV x0), (eV x7), (eV x2), (eV x3), (eV x4), (eV x5)])) sNop) sNop) (sSeq (sUnp [x9, x10] (eCallV x5 c_mul_school c_divrem_school [(eV x0), (eV x6), (eV x3)])) (sSeq (sSet x11 (eCall rec [(eV x9), (eV x7), (eV x2), (eV x3), (eV x4), (eV x5)])) (sSeq (sRet (eBin bAdd (eV x11) (eCall c_with_noughts [(eCall rec [(eV x10), (eV x7), (eV x2), (eV x3), (eV x4), (eV x5)]), (eV x8)]))) sNop))))))
def c_digits_by_powers (n : Nat) : CF := Nat.rec (motive := fun _ => CF) (fun _ => .no) (fun _ ih => runF 6 (m_digits_by_powers ih)) n
def m_to_digits : SM := (sSeq (sExp (eCall c_check_base [(eV x1)])) (sSeq (sSet x6 (eIf (tCmp cGt (eLen (eV x0)) (eV x3)) (eCall c_base_powers [(eV x0), (eV x1), (eV x2), (eV x5)]) (eList []))) (sSeq (sRet (eCall (c_digits_by_powers 50) [(eV x0), (eV x6), (eV x1), (eV x2), (eV x3), (eV x4)])) sNop)))
def c_to_digits : CF := runF 6 m_to_digits
def m_law_climbed : SM := (sSeq (sIdx x0 (eI 0) (eBin bAdd (eBin bIdx (eV x0) (eI 0)) (eI 1))) (sSeq (sIf (tCmp cLe (eBin bIdx (eV x0) (eI 0)) (eLen (eBin bIdx (eV x0) (eI 1)))) (sSeq (sRet (eBin bMod (eBin bIdx (eBin bIdx (eV x0) (eI 1)) (eBin bSub (eBin bIdx (eV x0) (eI 0)) (eI 1))) (eV x1))) sNop) sNop) (sSeq (sRet (eBin bMod (eBin bAdd (eBin bAdd (eBin bMul (eI 4) (eBin bIdx (eV x0) (eI 0))) (eBin bDiv (eBin bIdx (eV x0) (eI 0)) (eI 3))) (eI 6)) (eV x1))) sNop)))
def c_law_climbed : RF := runR 1 m_law_climbed
def m_law_limbs : SM := (sSeq (sSet x2 (eList [])) (sSeq (sWhile (tCmp cGt (eV x0) (eI 0)) (sSeq (sApp x2 (eBin bMod (eV x0) (eBin bPow (eI 2) (eV x1)))) (sSeq (sSet x0 (eBin bDiv (eV x0) (eBin bPow (eI 2) (eV x1)))) sNop))) (sSeq (sRet (eV x2)) sNop)))
def c_law_limbs : CF := runF 2 m_law_limbs
def m_law_worth : SM := (sSeq (sSet x2 (eI 0)) (sSeq (sFor (set1 x3) (iL (eRev (eV x0))) (sSeq (sSet x2 (eBin bAdd (eBin bMul (eV x2) (eBin bPow (eI 2) (eV x1))) (eV x3))) sNop)) (sSeq (sRet (eV x2)) sNop)))
def c_law_worth : CF := runF 2 m_law_worth
def m_law_written (rec : CF) : SM := (sSeq (sSet x3 (eCall c_to_digits [(eV x0), (eV x1), (eV x2), (eI 2), (eG 1), (eG 0)])) (sSeq (sSet x4 (eList [])) (sSeq (sFor (set2 x5 x6) (iEn (eV x3)) (sSeq (sIf (tCmp cGt (eV x6) (eI 0)) (sSeq (sApp x4 (eTup [(eCall rec [(eCall c_law_limbs [(eBin bSub (eBin bSub (eLen (eV x3)) (eI 1)) (eV x5)), (eV x2)]), (eV x1), (eV x2)]), (eV x6)])) sNop) sNop) sNop)) (sSeq (sRet (eTupOf (eV x4))) sNop))))
def c_law_written (n : Nat) : CF := Nat.rec (motive := fun _ => CF) (fun _ => .no) (fun _ ih => runF 3 (m_law_written ih)) n
def m_law_read (rec : CF) : SM := (sSeq (sSet x3 (eList [])) (sSeq (sFor (set2 x4 x5) (iT (eV x0)) (sSeq (sSet x6 (eCall c_power [(eCall c_law_limbs [(eV x1), (eV x2)]), (eCall c_law_worth [(eCall rec [(eV x4), (eV x1), (eV x2)]), (eV x2)]), (eV x2), (eG 0)])) (sSeq (sSet x3 (eCall c_add [(eV x3), (eCall c_mul_limb [(eV x6), (eV x5), (eV x2)]), (eV x2)])) sNop))) (sSeq (sRet (eV x3)) sNop)))
def c_law_read (n : Nat) : CF := Nat.rec (motive := fun _ => CF) (fun _ => .no) (fun _ ih => runF 3 (m_law_read ih)) n
def m_law_raised (rec : CF) : SM := (sSeq (sTup [x2, x3] [(eI 0), (eI 0)]) (sSeq (sWhile (tCmp cGt (eV x0) (eI 0)) (sSeq (sSet x2 (eBin bAdd (eV x2) (eBin bMul (eBin bMod (eV x0) (eV x1)) (eBin bPow (eBin bAdd (eV x1) (eI 1)) (eCall rec [(eV x3), (eV x1)]))))) (sSeq (sTupR [x3, x0] [(eBin bDiv (eV x0) (eV x1)), (eBin bAdd (eV x3) (eI 1))]) sNop))) (sSeq (sRet (eV x2)) sNop)))
def c_law_raised (n : Nat) : CF := Nat.rec (motive := fun _ => CF) (fun _ => .no) (fun _ ih => runF 2 (m_law_raised ih)) n
def m_law_walk : SM := (sSeq (sTupR [x4, x3] [(eV x0), (eList [(eV x0)])]) (sSeq (sFor (set1 x5) (iR2 (eI 2) (eBin bAdd (eI 2) (eV x1))) (sSeq (sIf (tCmp cEq (eV x3) (eI 0)) (sSeq sBrk sNop) sNop) (sSeq (sSet x6 (eCall (c_law_written 50) [(eCall c_law_limbs [(eV x3), (eV x2)]), (eV x5), (eV x2)])) (sSeq (sIf (tCmp cNe (eCall (c_law_read 50) [(eV x6), (eV x5), (eV x2)]) (eCall c_law_limbs [(eV x3), (eV x2)])) (sSeq (sRet eN) sNop) sNop) (sSeq (sSet x7 (eCall c_sub_limb [(eCall (c_law_read 50) [(eV x6), (eBin bAdd (eV x5) (eI 1)), (eV x2)]), (eI 1), (eV x2)])) (sSeq (sIf (tCmp cNe (eCall c_law_worth [(eV x7), (eV x2)]) (eBin bSub (eCall (c_law_raised 50) [(eV x3), (eV x5)]) (eI 1))) (sSeq (sRet eN) sNop) sNop) (sSeq (sIf (tNot (tCmp cLt (eCall (c_law_written 50) [(eV x7), (eBin bAdd (eV x5) (eI 1)), (eV x2)]) (eV x6))) (sSeq (sRet eN) sNop) sNop) (sSeq (sSet x3 (eCall c_law_worth [(eV x7), (eV x2)])) (sSeq (sApp x4 (eV x3)) sNop))))))))) (sSeq (sRet (eV x4)) sNop)))
def c_law_walk : CF := runF 3 m_law_walk
end Goo
end
-- GLem
section
namespace Goo
section inv
variable {α β : Type} {z t : α}
theorem RE.inv {r : RE} {k : D → St → α} (h : r.el z k = t) (hz : z ≠ t) : ∃ d σ, r = .ok d σ ∧ k d σ = t := by
  cases r with
  | no => exact absurd h hz
  | ok d σ => exact ⟨d, σ, rfl, h⟩
theorem RL.inv {r : RL} {k : List D → St → α} (h : r.el z k = t) (hz : z ≠ t) : ∃ d σ, r = .ok d σ ∧ k d σ = t := by
  cases r with
  | no => exact absurd h hz
  | ok d σ => exact ⟨d, σ, rfl, h⟩
theorem RO.inv {r : RO β} {k : β → α} (h : r.el z k = t) (hz : z ≠ t) : ∃ d, r = .ok d ∧ k d = t := by
  cases r with
  | no => exact absurd h hz
  | ok d => exact ⟨d, rfl, h⟩
theorem RT.inv {r : RT} {f g : St → α} (h : r.el z f g = t) (hz : z ≠ t) : (∃ σ, r = .tt σ ∧ f σ = t) ∨ ∃ σ, r = .ff σ ∧ g σ = t := by
  cases r with
  | no => exact absurd h hz
  | tt σ => exact .inl ⟨σ, rfl, h⟩
  | ff σ => exact .inr ⟨σ, rfl, h⟩
theorem D.onI_inv {d : D} {k : Int → α} (h : d.onI z k = t) (hz : z ≠ t) : ∃ i, d = .int i ∧ k i = t := by
  cases d <;> first | exact ⟨_, rfl, h⟩ | exact absurd h hz
theorem D.onI_cases (d : D) (z : α) (k : Int → α) : (∃ i, d = .int i ∧ d.onI z k = k i) ∨ ((∀ i, d ≠ .int i) ∧ d.onI z k = z) := by
  cases d <;> first | exact .inl ⟨_, rfl, rfl⟩ | exact .inr ⟨(by intro i h; cases h), rfl⟩
theorem D.onR_inv {d : D} {k : Nat → α} (h : d.onR z k = t) (hz : z ≠ t) : ∃ i, d = .ref i ∧ k i = t := by
  cases d <;> first | exact ⟨_, rfl, h⟩ | exact absurd h hz
theorem D.onR_cases (d : D) (z : α) (k : Nat → α) : (∃ i, d = .ref i ∧ d.onR z k = k i) ∨ ((∀ i, d ≠ .ref i) ∧ d.onR z k = z) := by
  cases d <;> first | exact .inl ⟨_, rfl, rfl⟩ | exact .inr ⟨(by intro i h; cases h), rfl⟩
theorem D.onT_inv {d : D} {k : List D → α} (h : d.onT z k = t) (hz : z ≠ t) : ∃ xs, d = .tup xs ∧ k xs = t := by
  cases d <;> first | exact ⟨_, rfl, h⟩ | exact absurd h hz
theorem D.onL_inv {d : D} {k : List D → α} (h : d.onL z k = t) (hz : z ≠ t) : ∃ xs, d = .list xs ∧ k xs = t := by
  cases d <;> first | exact ⟨_, rfl, h⟩ | exact absurd h hz
theorem D.onS_inv {d : D} {k : List D → α} (h : d.onS z k = t) (hz : z ≠ t) : ∃ xs, (d = .list xs ∨ d = .tup xs) ∧ k xs = t := by
  cases d <;> first | exact ⟨_, .inl rfl, h⟩ | exact ⟨_, .inr rfl, h⟩ | exact absurd h hz
theorem D.onF_inv {d : D} {k : Nat → α} (h : d.onF z k = t) (hz : z ≠ t) : ∃ i, d = .fn i ∧ k i = t := by
  cases d <;> first | exact ⟨_, rfl, h⟩ | exact absurd h hz
theorem D.onN_inv {d : D} {k : α} (h : d.onN z k = t) (hz : z ≠ t) : d = .none ∧ k = t := by
  cases d <;> first | exact ⟨rfl, h⟩ | exact absurd h hz
theorem D.onU_inv {d : D} {k : α} (h : d.onU z k = t) (hz : z ≠ t) : d ≠ .undef ∧ k = t := by
  cases d <;> first | exact ⟨nofun, h⟩ | exact absurd h hz
theorem onB_inv {b : Bool} {k : α} (h : onB b k z = t) (hz : z ≠ t) : b = true ∧ k = t := by
  cases b
  · exact absurd h hz
  · exact ⟨rfl, h⟩
theorem onZ_inv {i : Int} {k : Nat → α} (h : onZ i k (fun _ => z) = t) (hz : z ≠ t) : ∃ n : Nat, i = n ∧ k n = t := by
  cases i with
  | ofNat n => exact ⟨n, rfl, h⟩
  | negSucc n => exact absurd h hz
theorem onNat_inv {n : Nat} {k : Nat → α} (h : onNat n z k = t) (hz : z ≠ t) : ∃ p : Nat, n = p + 1 ∧ k p = t := by
  cases n with
  | zero => exact absurd h hz
  | succ p => exact ⟨p, rfl, h⟩
end inv
section eqs
variable {α β : Type}
theorem forceN_eq (n : Nat) (k : Nat → α) : forceN n k = k n := by cases n <;> rfl
theorem forceI_eq (i : Int) (k : Int → α) : forceI i k = k i := by
  cases i with
  | ofNat n => exact forceN_eq n fun m => k (.ofNat m)
  | negSucc n => exact forceN_eq n fun m => k (.negSucc m)
theorem forceL_eq (xs : List β) : ∀ k : List β → α, forceL xs k = k xs := by
  induction xs with
  | nil => intro k; rfl
  | cons x r ih => intro k; exact ih fun r => k (x :: r)
theorem appK_eq (xs ys : List β) : ∀ k : List β → α, appK xs ys k = k (xs ++ ys) := by
  induction xs with
  | nil => intro k; rfl
  | cons x r ih => intro k; exact ih fun r => k (x :: r)
theorem lsetK_eq (xs : List β) (v : β) : ∀ (n : Nat) (k : List β → α), lsetK xs n v k = k (xs.set n v) := by
  induction xs with
  | nil => intro n k; rfl
  | cons x r ih =>
    intro n k
    cases n with
    | zero => rfl
    | succ n => exact ih n fun r => k (x :: r)
theorem nthK_eq (xs : List β) (z : α) (k : β → α) : ∀ n : Nat, nthK xs n z k = match xs[n]? with | some x => k x | none => z := by
  induction xs with
  | nil => intro n; rfl
  | cons x r ih =>
    intro n
    cases n with
    | zero => rfl
    | succ n => exact ih n
theorem nthK_inv {xs : List β} {n : Nat} {z t : α} {k : β → α} (h : nthK xs n z k = t) (hz : z ≠ t) : ∃ x, xs[n]? = some x ∧ k x = t := by
  rw [nthK_eq] at h
  split at h
  · rename_i x e; exact ⟨x, e, h⟩
  · exact absurd h hz
theorem len_eq (xs : List β) : len xs = xs.length := by
  induction xs with
  | nil => rfl
  | cons x r ih => exact congrArg Nat.succ ih
theorem onB_eq (b : Bool) (x y : α) : onB b x y = if b = true then x else y := by cases b <;> rfl
end eqs
theorem repl_eq (n : Nat) (x : D) : repl n x = List.replicate n x := by
  induction n with
  | zero => rfl
  | succ n ih => show x :: repl n x = _; rw [ih]; rfl
theorem subNN_eq (a b : Nat) : subNN a b = (a : Int) - b := by
  unfold subNN
  rw [onB_eq]
  split
  · rename_i h
    have := Nat.le_of_ble_eq_true h
    show ((a - b : Nat) : Int) = _
    omega
  · rename_i h
    have : ¬ b ≤ a := fun q => h (Nat.ble_eq_true_of_le q)
    show Int.negSucc (b - a).pred = _
    rw [Int.negSucc_eq]
    have : (b - a).pred = b - a - 1 := rfl
    omega
theorem zneg_eq (x : Int) : zneg x = -x := by
  cases x with
  | ofNat n => cases n <;> rfl
  | negSucc n => rfl
theorem zadd_eq (x y : Int) : zadd x y = x + y := by
  cases x with
  | ofNat a => cases y with
    | ofNat b => rfl
    | negSucc b => show subNN a (b + 1) = _; rw [subNN_eq, Int.negSucc_eq]; show _ = (a : Int) + _; push_cast; omega
  | negSucc a => cases y with
    | ofNat b => show subNN b (a + 1) = _; rw [subNN_eq, Int.negSucc_eq]; show _ = _ + (b : Int); push_cast; omega
    | negSucc b => show Int.negSucc (a + b + 1) = _; rw [Int.negSucc_eq, Int.negSucc_eq, Int.negSucc_eq]; push_cast; omega
theorem zsub_eq (x y : Int) : zsub x y = x - y := by
  cases x with
  | ofNat a => cases y with
    | ofNat b => exact subNN_eq a b
    | negSucc b => show ((a + (b + 1) : Nat) : Int) = _; rw [Int.negSucc_eq]; show _ = (a : Int) - _; push_cast; omega
  | negSucc a => cases y with
    | ofNat b => show Int.negSucc (a + b) = _; rw [Int.negSucc_eq, Int.negSucc_eq]; show _ = _ - (b : Int); push_cast; omega
    | negSucc b => show subNN b a = _; rw [subNN_eq, Int.negSucc_eq, Int.negSucc_eq]; omega
theorem zmul_eq (x y : Int) : zmul x y = x * y := by
  cases x with
  | ofNat a => cases y with
    | ofNat b => rfl
    | negSucc b => show zneg ((a * (b + 1) : Nat) : Int) = _; rw [zneg_eq, Int.negSucc_eq]; show _ = (a : Int) * _; rw [Int.mul_neg]; push_cast; rfl
  | negSucc a => cases y with
    | ofNat b => show zneg (((a + 1) * b : Nat) : Int) = _; rw [zneg_eq, Int.negSucc_eq]; show _ = _ * (b : Int); rw [Int.neg_mul]; push_cast; rfl
    | negSucc b => show (((a + 1) * (b + 1) : Nat) : Int) = _; rw [Int.negSucc_eq, Int.negSucc_eq, Int.neg_mul_neg]; push_cast; rfl
theorem bool_dec {b : Bool} {p : Prop} [Decidable p] (h : b = true ↔ p) : b = decide p := by
  cases b
  · exact (decide_eq_false fun q => Bool.false_ne_true (h.mpr q)).symm
  · exact (decide_eq_true (h.mp rfl)).symm
theorem ble_iff {a b : Nat} : Nat.ble a b = true ↔ a ≤ b := ⟨Nat.le_of_ble_eq_true, Nat.ble_eq_true_of_le⟩
theorem zlt_eq (x y : Int) : zlt x y = decide (x < y) := by
  apply bool_dec
  cases x with
  | ofNat a => cases y with
    | ofNat b => show Nat.ble (a + 1) b = true ↔ (a : Int) < b; rw [ble_iff]; omega
    | negSucc b => show false = true ↔ (a : Int) < _; rw [Int.negSucc_eq]; simp; omega
  | negSucc a => cases y with
    | ofNat b => show true = true ↔ _ < (b : Int); rw [Int.negSucc_eq]; simp; omega
    | negSucc b => show Nat.ble (b + 1) a = true ↔ _; rw [ble_iff, Int.negSucc_eq, Int.negSucc_eq]; omega
theorem zle_eq (x y : Int) : zle x y = decide (x ≤ y) := by
  apply bool_dec
  cases x with
  | ofNat a => cases y with
    | ofNat b => show Nat.ble a b = true ↔ (a : Int) ≤ b; rw [ble_iff]; omega
    | negSucc b => show false = true ↔ (a : Int) ≤ _; rw [Int.negSucc_eq]; simp; omega
  | negSucc a => cases y with
    | ofNat b => show true = true ↔ _ ≤ (b : Int); rw [Int.negSucc_eq]; simp; omega
    | negSucc b => show Nat.ble b a = true ↔ _; rw [ble_iff, Int.negSucc_eq, Int.negSucc_eq]; omega
theorem zeq_eq (x y : Int) : zeq x y = decide (x = y) := by
  apply bool_dec
  cases x with
  | ofNat a => cases y with
    | ofNat b => show Nat.beq a b = true ↔ (a : Int) = b; rw [Nat.beq_eq]; omega
    | negSucc b => show false = true ↔ (a : Int) = _; rw [Int.negSucc_eq]; simp; omega
  | negSucc a => cases y with
    | ofNat b => show false = true ↔ _ = (b : Int); rw [Int.negSucc_eq]; simp; omega
    | negSucc b => show Nat.beq a b = true ↔ _; rw [Nat.beq_eq, Int.negSucc_eq, Int.negSucc_eq]; omega
theorem small_le {x : Int} (h : small x = true) : x.natAbs ≤ 2 ^ 60 + 1 := by
  cases x with
  | ofNat n => have := Nat.le_of_ble_eq_true h; show n ≤ _; exact Nat.le_succ_of_le this
  | negSucc n => have := Nat.le_of_ble_eq_true h; show n + 1 ≤ _; exact Nat.succ_le_succ this
theorem toN_eq (x : Int) : toN x = x.toNat := by cases x <;> rfl
theorem dropR_eq (xs : List D) : ∀ n, dropR xs n = xs.drop n := by
  induction xs with
  | nil => intro n; exact List.drop_nil.symm
  | cons x r ih =>
    intro n
    cases n with
    | zero => rfl
    | succ n => exact ih n
theorem takeR_eq (xs : List D) : ∀ n, takeR xs n = xs.take n := by
  induction xs with
  | nil => intro n; exact List.take_nil.symm
  | cons x r ih =>
    intro n
    cases n with
    | zero => rfl
    | succ n => exact congrArg (x :: ·) (ih n)
theorem revR_go (xs : List D) : ∀ a, List.rec (motive := fun _ => List D → List D) (fun a => a) (fun x _ ih a => ih (x :: a)) xs a = xs.reverse ++ a := by
  induction xs with
  | nil => intro a; rfl
  | cons x r ih => intro a; rw [List.reverse_cons, List.append_assoc]; exact ih (x :: a)
theorem revR_eq (xs : List D) : revR xs = xs.reverse := (revR_go xs []).trans (List.append_nil _)
theorem clip_eq (n : Nat) (k : Int) : (clip n k : Int) = max 0 (min (if k < 0 then k + n else k) n) := by
  cases k with
  | ofNat k =>
    show ((onB (Nat.ble k n) k n : Nat) : Int) = max 0 (min (if (k : Int) < 0 then (k : Int) + n else k) n)
    rw [onB_eq]
    by_cases h : k ≤ n
    · rw [if_pos (Nat.ble_eq_true_of_le h)]; omega
    · rw [if_neg fun q => h (Nat.le_of_ble_eq_true q)]; omega
  | negSucc k =>
    show ((onB (Nat.ble (k + 1) n) (n - (k + 1)) 0 : Nat) : Int) = _
    rw [onB_eq, Int.negSucc_eq]
    by_cases h : k + 1 ≤ n
    · rw [if_pos (Nat.ble_eq_true_of_le h)]; omega
    · rw [if_neg fun q => h (Nat.le_of_ble_eq_true q)]; omega

-- the places of a state
def St.get (σ : St) : Nat → D
  | 0 => σ.v0 | 1 => σ.v1 | 2 => σ.v2 | 3 => σ.v3 | 4 => σ.v4 | 5 => σ.v5 | 6 => σ.v6 | 7 => σ.v7 | 8 => σ.v8 | 9 => σ.v9 | 10 => σ.v10 | 11 => σ.v11
  | _ => .undef
structure Lens.At (x : Lens) (i : Nat) : Prop where
  get : ∀ σ, x.g σ = σ.get i
  set : ∀ v σ j, (x.s v σ).get j = if j = i then v else σ.get j
  objs : ∀ v σ, (x.s v σ).objs = σ.objs
theorem lens_set {x : Lens} {i : Nat} {v : D} {σ : St} (hi : i < 12) (h : ∀ j, j < 12 → (x.s v σ).get j = if j = i then v else σ.get j) (j : Nat) : (x.s v σ).get j = if j = i then v else σ.get j := by
  by_cases q : j < 12
  · exact h j q
  · obtain ⟨k, rfl⟩ : ∃ k, j = k + 12 := ⟨j - 12, by omega⟩
    rw [if_neg (by omega)]; rfl
theorem lt12 {p : Nat → Prop} (p0 : p 0) (p1 : p 1) (p2 : p 2) (p3 : p 3) (p4 : p 4) (p5 : p 5) (p6 : p 6) (p7 : p 7) (p8 : p 8) (p9 : p 9) (p10 : p 10) (p11 : p 11) (j : Nat) (h : j < 12) : p j := by
  match j, h with
  | 0, _ => exact p0
  | 1, _ => exact p1
  | 2, _ => exact p2
  | 3, _ => exact p3
  | 4, _ => exact p4
  | 5, _ => exact p5
  | 6, _ => exact p6
  | 7, _ => exact p7
  | 8, _ => exact p8
  | 9, _ => exact p9
  | 10, _ => exact p10
  | 11, _ => exact p11
theorem at0 : Lens.At x0 0 := ⟨fun _ => rfl, fun v σ j => lens_set (by decide) (lt12 (p := fun j => (x0.s v σ).get j = if j = 0 then v else σ.get j) rfl rfl rfl rfl rfl rfl rfl rfl rfl rfl rfl rfl) j, fun _ _ => rfl⟩
theorem at1 : Lens.At x1 1 := ⟨fun _ => rfl, fun v σ j => lens_set (by decide) (lt12 (p := fun j => (x1.s v σ).get j = if j = 1 then v else σ.get j) rfl rfl rfl rfl rfl rfl rfl rfl rfl rfl rfl rfl) j, fun _ _ => rfl⟩
theorem at2 : Lens.At x2 2 := ⟨fun _ => rfl, fun v σ j => lens_set (by decide) (lt12 (p := fun j => (x2.s v σ).get j = if j = 2 then v else σ.get j) rfl rfl rfl rfl rfl rfl rfl rfl rfl rfl rfl rfl) j, fun _ _ => rfl⟩
theorem at3 : Lens.At x3 3 := ⟨fun _ => rfl, fun v σ j => lens_set (by decide) (lt12 (p := fun j => (x3.s v σ).get j = if j = 3 then v else σ.get j) rfl rfl rfl rfl rfl rfl rfl rfl rfl rfl rfl rfl) j, fun _ _ => rfl⟩
theorem at4 : Lens.At x4 4 := ⟨fun _ => rfl, fun v σ j => lens_set (by decide) (lt12 (p := fun j => (x4.s v σ).get j = if j = 4 then v else σ.get j) rfl rfl rfl rfl rfl rfl rfl rfl rfl rfl rfl rfl) j, fun _ _ => rfl⟩
theorem at5 : Lens.At x5 5 := ⟨fun _ => rfl, fun v σ j => lens_set (by decide) (lt12 (p := fun j => (x5.s v σ).get j = if j = 5 then v else σ.get j) rfl rfl rfl rfl rfl rfl rfl rfl rfl rfl rfl rfl) j, fun _ _ => rfl⟩
theorem at6 : Lens.At x6 6 := ⟨fun _ => rfl, fun v σ j => lens_set (by decide) (lt12 (p := fun j => (x6.s v σ).get j = if j = 6 then v else σ.get j) rfl rfl rfl rfl rfl rfl rfl rfl rfl rfl rfl rfl) j, fun _ _ => rfl⟩
theorem at7 : Lens.At x7 7 := ⟨fun _ => rfl, fun v σ j => lens_set (by decide) (lt12 (p := fun j => (x7.s v σ).get j = if j = 7 then v else σ.get j) rfl rfl rfl rfl rfl rfl rfl rfl rfl rfl rfl rfl) j, fun _ _ => rfl⟩
theorem at8 : Lens.At x8 8 := ⟨fun _ => rfl, fun v σ j => lens_set (by decide) (lt12 (p := fun j => (x8.s v σ).get j = if j = 8 then v else σ.get j) rfl rfl rfl rfl rfl rfl rfl rfl rfl rfl rfl rfl) j, fun _ _ => rfl⟩
theorem at9 : Lens.At x9 9 := ⟨fun _ => rfl, fun v σ j => lens_set (by decide) (lt12 (p := fun j => (x9.s v σ).get j = if j = 9 then v else σ.get j) rfl rfl rfl rfl rfl rfl rfl rfl rfl rfl rfl rfl) j, fun _ _ => rfl⟩
theorem at10 : Lens.At x10 10 := ⟨fun _ => rfl, fun v σ j => lens_set (by decide) (lt12 (p := fun j => (x10.s v σ).get j = if j = 10 then v else σ.get j) rfl rfl rfl rfl rfl rfl rfl rfl rfl rfl rfl rfl) j, fun _ _ => rfl⟩
theorem at11 : Lens.At x11 11 := ⟨fun _ => rfl, fun v σ j => lens_set (by decide) (lt12 (p := fun j => (x11.s v σ).get j = if j = 11 then v else σ.get j) rfl rfl rfl rfl rfl rfl rfl rfl rfl rfl rfl rfl) j, fun _ _ => rfl⟩
theorem get_setO (σ : St) (os : List Ob) (j : Nat) : (σ.setO os).get j = σ.get j := by
  match j with
  | 0 | 1 | 2 | 3 | 4 | 5 | 6 | 7 | 8 | 9 | 10 | 11 => rfl
  | _ + 12 => rfl
theorem objs_setO (σ : St) (os : List Ob) : (σ.setO os).objs = os := rfl
theorem putL_eq (i : Nat) (xs : List D) (σ : St) : putL i xs σ = σ.setO (σ.objs.set i (.ow xs)) := lsetK_eq ..
end Goo
end
-- GBase
section
open PySem PyProof.Rows
namespace Goo

abbrev KM := Addr → Option Obj
abbrev lobj (vs : List Value) (n : Nat) : Obj := { cls := .type "list", data := .seq vs.toArray n }
abbrev tobj (vs : List Value) (n : Nat) : Obj := { cls := .type "tuple", data := .seq vs.toArray n }
def KM.le (K K' : KM) : Prop := ∀ b o, K b = some o → K' b = some o
def KM.put (K : KM) (a : Addr) (o : Obj) : KM := fun b => if b = a then some o else K b
theorem KM.le_refl (K : KM) : K.le K := fun _ _ e => e
theorem KM.le.trans {K K' K'' : KM} (x : K.le K') (y : K'.le K'') : K.le K'' := fun b o e => y b o (x b o e)
theorem KM.le_put {K : KM} {a : Addr} {o : Obj} (h : K a = none) : K.le (K.put a o) := fun b o' e => by
  unfold KM.put
  split
  · rename_i q; subst q; rw [h] at e; cases e
  · exact e
theorem KM.put_self (K : KM) (a : Addr) (o : Obj) : K.put a o a = some o := if_pos rfl
theorem KM.put_ne {K : KM} {a b : Addr} {o : Obj} (h : b ≠ a) : K.put a o b = K b := if_neg h

mutual
inductive DR (fa : Nat → Addr) (K : KM) : D → Value → Prop
  | int (i : Int) (t : Tok) : DR fa K (.int i) (.int i t)
  | bool (b : Bool) : DR fa K (.bool b) (.bool b)
  | none : DR fa K .none .none
  | fn (k : Nat) : DR fa K (.fn k) (.ref (fa k))
  | list {a : Addr} {vs : List Value} {n : Nat} {xs : List D} : K a = some (lobj vs n) → xs.length ≤ 1000 → DL fa K xs vs → DR fa K (.list xs) (.ref a)
  | tup {a : Addr} {vs : List Value} {n : Nat} {xs : List D} : K a = some (tobj vs n) → xs.length ≤ 1000 → DL fa K xs vs → DR fa K (.tup xs) (.ref a)
inductive DL (fa : Nat → Addr) (K : KM) : List D → List Value → Prop
  | nil : DL fa K [] []
  | cons {d : D} {v : Value} {ds : List D} {vs : List Value} : DR fa K d v → DL fa K ds vs → DL fa K (d :: ds) (v :: vs)
end
mutual
theorem DR.mono {fa : Nat → Addr} {K K' : KM} (h : K.le K') : ∀ {d : D} {v : Value}, DR fa K d v → DR fa K' d v
  | _, _, .int i t => .int i t
  | _, _, .bool b => .bool b
  | _, _, .none => .none
  | _, _, .fn k => .fn k
  | _, _, .list e l x => .list (h _ _ e) l (DL.mono h x)
  | _, _, .tup e l x => .tup (h _ _ e) l (DL.mono h x)
theorem DL.mono {fa : Nat → Addr} {K K' : KM} (h : K.le K') : ∀ {ds : List D} {vs : List Value}, DL fa K ds vs → DL fa K' ds vs
  | _, _, .nil => .nil
  | _, _, .cons x r => .cons (DR.mono h x) (DL.mono h r)
end
section
variable {fa : Nat → Addr} {K : KM}
theorem DL.length {ds : List D} {vs : List Value} (h : DL fa K ds vs) : ds.length = vs.length := by
  induction ds generalizing vs with
  | nil => cases h; rfl
  | cons d r ih => cases h with | cons x y => exact congrArg Nat.succ (ih y)
theorem DL.get {ds : List D} {vs : List Value} (h : DL fa K ds vs) : ∀ {i : Nat} {d : D}, ds[i]? = some d → ∃ v, vs[i]? = some v ∧ DR fa K d v := by
  induction ds generalizing vs with
  | nil => intro i d e; cases e
  | cons x r ih =>
    cases h with | cons p q =>
    intro i d e
    cases i with
    | zero => cases e; exact ⟨_, rfl, p⟩
    | succ i => exact ih q e
theorem DL.append {ds es : List D} {vs us : List Value} (h : DL fa K ds vs) (g : DL fa K es us) : DL fa K (ds ++ es) (vs ++ us) := by
  induction ds generalizing vs with
  | nil => cases h; exact g
  | cons x r ih => cases h with | cons p q => exact .cons p (ih q)
theorem DL.take {ds : List D} {vs : List Value} (h : DL fa K ds vs) : ∀ n, DL fa K (ds.take n) (vs.take n) := by
  induction ds generalizing vs with
  | nil => cases h; intro n; rw [List.take_nil, List.take_nil]; exact .nil
  | cons x r ih =>
    cases h with | cons p q =>
    intro n
    cases n with
    | zero => exact .nil
    | succ n => exact .cons p (ih q n)
theorem DL.drop {ds : List D} {vs : List Value} (h : DL fa K ds vs) : ∀ n, DL fa K (ds.drop n) (vs.drop n) := by
  induction ds generalizing vs with
  | nil => cases h; intro n; rw [List.drop_nil, List.drop_nil]; exact .nil
  | cons x r ih =>
    cases h with | cons p q =>
    intro n
    cases n with
    | zero => exact .cons p q
    | succ n => exact ih q n
theorem DL.reverse {ds : List D} {vs : List Value} (h : DL fa K ds vs) : DL fa K ds.reverse vs.reverse := by
  induction ds generalizing vs with
  | nil => cases h; exact .nil
  | cons x r ih => cases h with | cons p q => rw [List.reverse_cons, List.reverse_cons]; exact (ih q).append (.cons p .nil)
theorem DL.replicate {d : D} {v : Value} (h : DR fa K d v) : ∀ n, DL fa K (List.replicate n d) (List.replicate n v)
  | 0 => .nil
  | n + 1 => .cons h (DL.replicate h n)
theorem DL.set {ds : List D} {vs : List Value} (h : DL fa K ds vs) {d : D} {v : Value} (g : DR fa K d v) : ∀ n, DL fa K (ds.set n d) (vs.set n v) := by
  induction ds generalizing vs with
  | nil => cases h; intro n; exact .nil
  | cons x r ih =>
    cases h with | cons p q =>
    intro n
    cases n with
    | zero => exact .cons g q
    | succ n => exact .cons p (ih q n)
end

inductive VR (fa : Nat → Addr) (K : KM) (ρ : List Addr) : D → Value → Prop
  | d {d : D} {v : Value} : DR fa K d v → VR fa K ρ d v
  | ref {i : Nat} {a : Addr} : ρ[i]? = some a → VR fa K ρ (.ref i) (.ref a)
theorem VR.mono {fa : Nat → Addr} {K K' : KM} {ρ ρ' : List Addr} (h : K.le K') (hp : ρ <+: ρ') {d : D} {v : Value} (x : VR fa K ρ d v) : VR fa K' ρ' d v := by
  cases x with
  | d x => exact .d (x.mono h)
  | ref e =>
    obtain ⟨t, rfl⟩ := hp
    exact .ref (by rw [List.getElem?_append_left (by rw [List.getElem?_eq_some_iff] at e; exact e.1)]; exact e)
section
variable {fa : Nat → Addr} {K : KM} {ρ : List Addr}
theorem VR.int {i : Int} {v : Value} (x : VR fa K ρ (.int i) v) : ∃ t, v = .int i t := by cases x with | d x => cases x with | int _ t => exact ⟨t, rfl⟩
theorem VR.bool {b : Bool} {v : Value} (x : VR fa K ρ (.bool b) v) : v = .bool b := by cases x with | d x => cases x; rfl
theorem VR.none {v : Value} (x : VR fa K ρ .none v) : v = .none := by cases x with | d x => cases x; rfl
theorem VR.fn {k : Nat} {v : Value} (x : VR fa K ρ (.fn k) v) : v = .ref (fa k) := by cases x with | d x => cases x; rfl
theorem VR.refI {i : Nat} {v : Value} (x : VR fa K ρ (.ref i) v) : ∃ a, ρ[i]? = some a ∧ v = .ref a := by
  cases x with
  | d x => cases x
  | ref e => exact ⟨_, e, rfl⟩
theorem VR.undef {v : Value} (x : VR fa K ρ .undef v) : False := by cases x with | d x => cases x
theorem VR.tup {xs : List D} {v : Value} (x : VR fa K ρ (.tup xs) v) : ∃ a vs n, v = .ref a ∧ K a = some (tobj vs n) ∧ xs.length ≤ 1000 ∧ DL fa K xs vs := by
  cases x with | d x => cases x with | tup e l y => exact ⟨_, _, _, rfl, e, l, y⟩
theorem VR.list {xs : List D} {v : Value} (x : VR fa K ρ (.list xs) v) : ∃ a vs n, v = .ref a ∧ K a = some (lobj vs n) ∧ xs.length ≤ 1000 ∧ DL fa K xs vs := by
  cases x with | d x => cases x with | list e l y => exact ⟨_, _, _, rfl, e, l, y⟩
theorem VR.pure {d : D} {v : Value} (x : VR fa K ρ d v) (h : ∀ i, d ≠ .ref i) : DR fa K d v := by
  cases x with
  | d x => exact x
  | ref e => exact absurd rfl (h _)
end

structure GE where
  prog : Program
  w : World
  mg : Str → Option Value
  mb : Str → Option Value
  fa : Nat → Addr
  hb : Heap
abbrev biNames : List (Str × Value) := [("len", .builtin "len"), ("range", .type "range"), ("enumerate", .type "enumerate"), ("min", .builtin "min"), ("tuple", .type "tuple")]
structure GOk (G : GE) : Prop where
  g : G.hb.Ns mainGlobals G.mg
  b : G.hb.Ns builtinsNs G.mb
  nolimit : G.hb.NoLimit
  bi : ∀ x ∈ biNames, G.mg x.1 = none ∧ G.mb x.1 = some x.2

structure Hp (G : GE) (K P : KM) (h : Heap) : Prop where
  base : ∀ b o, G.hb.get? b = some o → K b = some o ∨ P b = some o
  keepK : ∀ b o, K b = some o → h.get? b = some o
  keepP : ∀ b o, P b = some o → h.get? b = some o
  disj : ∀ b o, K b = some o → P b = none
def Same (s s' : Shared) : Prop := ∃ h tk, s' = { s with heap := h, toks := tk }
theorem Same.refl (s : Shared) : Same s s := ⟨s.heap, s.toks, rfl⟩
theorem Same.trans {s s' s'' : Shared} (x : Same s s') (y : Same s' s'') : Same s s'' := by
  obtain ⟨h, t, rfl⟩ := x
  obtain ⟨h', t', rfl⟩ := y
  exact ⟨h', t', rfl⟩
theorem Same.of (s : Shared) (h : Heap) (t : Nat) : Same s { s with heap := h, toks := t } := ⟨h, t, rfl⟩
section
variable {G : GE} {K K' P : KM} {h h' : Heap}
theorem Hp.stays (x : Hp G K P h) : ∀ b o, G.hb.get? b = some o → h.get? b = some o := fun b o e => (x.base b o e).elim (x.keepK b o) (x.keepP b o)
theorem Hp.freshK (x : Hp G K P h) {a : Addr} (ha : h.objs.size ≤ a) : K a = none := by
  cases e : K a with
  | none => rfl
  | some o => exact absurd (Heap.lt_size (x.keepK a o e)) (Nat.not_lt.mpr ha)
theorem Hp.freshP (x : Hp G K P h) {a : Addr} (ha : h.objs.size ≤ a) : P a = none := by
  cases e : P a with
  | none => rfl
  | some o => exact absurd (Heap.lt_size (x.keepP a o e)) (Nat.not_lt.mpr ha)
theorem Hp.ext (x : Hp G K P h) (k : ∀ b o, h.get? b = some o → h'.get? b = some o) : Hp G K P h' :=
  ⟨x.base, fun b o e => k b o (x.keepK b o e), fun b o e => k b o (x.keepP b o e), x.disj⟩
theorem Hp.but (x : Hp G K P h) {a : Addr} (hk : K a = none) (hp : P a = none) (k : ∀ b o, b ≠ a → h.get? b = some o → h'.get? b = some o) : Hp G K P h' :=
  ⟨x.base, fun b o e => k b o (fun q => by subst q; rw [hk] at e; cases e) (x.keepK b o e), fun b o e => k b o (fun q => by subst q; rw [hp] at e; cases e) (x.keepP b o e), x.disj⟩
theorem Hp.putK (x : Hp G K P h) {a : Addr} {o : Obj} (ho : h.get? a = some o) (hp : P a = none) : Hp G (K.put a o) P h := by
  refine ⟨fun b o' e => ?_, fun b o' e => ?_, x.keepP, fun b o' e => ?_⟩
  · rcases x.base b o' e with q | q
    · left
      by_cases z : b = a
      · subst z; rw [KM.put_self, ← ho]; exact x.keepK _ _ q
      · rw [KM.put_ne z]; exact q
    · exact .inr q
  · by_cases z : b = a
    · subst z; rw [KM.put_self] at e; cases e; exact ho
    · rw [KM.put_ne z] at e; exact x.keepK _ _ e
  · by_cases z : b = a
    · subst z; exact hp
    · rw [KM.put_ne z] at e; exact x.disj _ _ e
end

def Ob.cs : Ob → List D
  | .fz xs => xs
  | .ow xs => xs
theorem Ob.con_eq {α : Type} (o : Ob) (k : List D → α) : o.con k = k o.cs := by cases o <;> rfl
theorem Ob.onO_inv {α : Type} {o : Ob} {z t : α} {k : List D → α} (h : o.onO z k = t) (hz : z ≠ t) : ∃ xs, o = .ow xs ∧ k xs = t := by
  cases o with
  | fz xs => exact absurd h hz
  | ow xs => exact ⟨xs, rfl, h⟩

/-- what a local list is in the heap -/
structure ObAt (fa : Nat → Addr) (K P : KM) (L : Addr) (h : Heap) (o : Ob) (a : Addr) : Prop where
  size : o.cs.length ≤ 1000
  at' : ∃ vs n, h.get? a = some (lobj vs n) ∧ DL fa K o.cs vs
  fz : ∀ xs, o = .fz xs → ∀ ob, h.get? a = some ob → K a = some ob
  ow : ∀ xs, o = .ow xs → K a = none ∧ P a = none ∧ a ≠ L

structure Rel (G : GE) (names : List Str) (P : KM) (L : Addr) (K : KM) (ρ : List Addr) (σ : St) (m : Str → Option Value) (s : Shared) : Prop where
  hp : Hp G K P s.heap
  ns : s.heap.Ns L m
  lk : K L = none
  lp : P L = none
  vars : ∀ i x, names[i]? = some x → σ.get i ≠ .undef → ∃ v, m x = some v ∧ VR G.fa K ρ (σ.get i) v
  len : ρ.length = σ.objs.length
  objs : ∀ (i : Nat) (o : Ob) (a : Addr), σ.objs[i]? = some o → ρ[i]? = some a → ObAt G.fa K P L s.heap o a
  inj : ∀ (i j : Nat) (a : Addr), ρ[i]? = some a → ρ[j]? = some a → i = j

structure Ext (K : KM) (ρ : List Addr) (K' : KM) (ρ' : List Addr) : Prop where
  k : K.le K'
  r : ρ <+: ρ'
theorem Ext.refl (K : KM) (ρ : List Addr) : Ext K ρ K ρ := ⟨K.le_refl, List.prefix_rfl⟩
theorem Ext.trans {K K' K'' : KM} {ρ ρ' ρ'' : List Addr} (x : Ext K ρ K' ρ') (y : Ext K' ρ' K'' ρ'') : Ext K ρ K'' ρ'' := ⟨x.k.trans y.k, x.r.trans y.r⟩
theorem VR.ext {fa : Nat → Addr} {K K' : KM} {ρ ρ' : List Addr} {d : D} {v : Value} (x : VR fa K ρ d v) (e : Ext K ρ K' ρ') : VR fa K' ρ' d v := x.mono e.k e.r

section
variable {G : GE} {names : List Str} {P : KM} {L : Addr} {K K' : KM} {ρ ρ' : List Addr} {σ : St} {m : Str → Option Value} {s : Shared}

theorem ObAt.grow {fa : Nat → Addr} {h h' : Heap} {o : Ob} {a : Addr} (x : ObAt fa K P L h o a) (hk : K.le K') (hn : ∀ b ob, h.get? b = some ob → K b = none → K' b = none)
    (k : ∀ ob, h.get? a = some ob → h'.get? a = some ob) : ObAt fa K' P L h' o a := by
  obtain ⟨vs, n, e, d⟩ := x.at'
  refine ⟨x.size, ⟨vs, n, k _ e, d.mono hk⟩, fun xs q ob z => ?_, fun xs q => ⟨hn a _ e (x.ow xs q).1, (x.ow xs q).2⟩⟩
  have y := x.fz xs q _ e
  rw [k _ e] at z
  cases z
  exact hk _ _ y

theorem Rel.grow (R : Rel G names P L K ρ σ m s) {h' : Heap} {tk : Nat} (hk : K.le K') (hp : Hp G K' P h') (hn : ∀ b ob, s.heap.get? b = some ob → K b = none → K' b = none)
    (k : ∀ b o, s.heap.get? b = some o → h'.get? b = some o) : Rel G names P L K' ρ σ m { s with heap := h', toks := tk } := by
  obtain ⟨oL, _, _, hL, _⟩ := id R.ns
  refine ⟨hp, R.ns.keeps k, hn L oL hL R.lk, R.lp, fun i x e q => ?_, R.len, fun i o a e r => (R.objs i o a e r).grow hk hn (k a), R.inj⟩
  obtain ⟨v, e1, e2⟩ := R.vars i x e q
  exact ⟨v, e1, e2.mono hk List.prefix_rfl⟩

theorem Rel.ext (R : Rel G names P L K ρ σ m s) {h' : Heap} {tk : Nat} (k : ∀ b o, s.heap.get? b = some o → h'.get? b = some o) : Rel G names P L K ρ σ m { s with heap := h', toks := tk } :=
  R.grow K.le_refl (R.hp.ext k) (fun _ _ _ e => e) k
theorem Rel.tok (R : Rel G names P L K ρ σ m s) {tk : Nat} : Rel G names P L K ρ σ m { s with toks := tk } := R.ext (fun _ _ e => e)
/-- a new frozen object -/
theorem Rel.newK (R : Rel G names P L K ρ σ m s) {h' : Heap} {tk : Nat} {a : Addr} {o : Obj} (ha : s.heap.objs.size ≤ a) (ho : h'.get? a = some o)
    (k : ∀ b o, s.heap.get? b = some o → h'.get? b = some o) : Rel G names P L (K.put a o) ρ σ m { s with heap := h', toks := tk } :=
  R.grow (KM.le_put (R.hp.freshK ha)) ((R.hp.ext k).putK ho (R.hp.freshP ha)) (fun b ob e q => by
    rw [KM.put_ne (Nat.ne_of_lt (Nat.lt_of_lt_of_le (Heap.lt_size e) ha))]; exact q) k

theorem Rel.ne_L (R : Rel G names P L K ρ σ m s) : L < s.heap.objs.size := R.ns.lt
theorem Rel.at (R : Rel G names P L K ρ σ m s) {i : Nat} {o : Ob} (e : σ.objs[i]? = some o) : ∃ a, ρ[i]? = some a ∧ ObAt G.fa K P L s.heap o a := by
  have hi : i < ρ.length := R.len ▸ (List.getElem?_eq_some_iff.mp e).1
  exact ⟨ρ[i], List.getElem?_eq_getElem hi, R.objs i o _ e (List.getElem?_eq_getElem hi)⟩
theorem Rel.lt (R : Rel G names P L K ρ σ m s) {i : Nat} {a : Addr} (e : ρ[i]? = some a) : a < s.heap.objs.size := by
  have hi : i < σ.objs.length := R.len ▸ (List.getElem?_eq_some_iff.mp e).1
  obtain ⟨vs, n, q, _⟩ := (R.objs i _ a (List.getElem?_eq_getElem hi) e).at'
  exact Heap.lt_size q

/-- a new local list -/
theorem Rel.newO (R : Rel G names P L K ρ σ m s) {h' : Heap} {tk : Nat} {a : Addr} {vs : List Value} {n : Nat} {xs : List D} (ha : s.heap.objs.size ≤ a) (ho : h'.get? a = some (lobj vs n))
    (k : ∀ b o, s.heap.get? b = some o → h'.get? b = some o) (hd : DL G.fa K xs vs) (hx : xs.length ≤ 1000) :
    Rel G names P L K (ρ ++ [a]) (σ.setO (σ.objs ++ [.ow xs])) m { s with heap := h', toks := tk } ∧ (ρ ++ [a])[σ.objs.length]? = some a := by
  have R' := R.ext (tk := tk) k
  refine ⟨⟨R'.hp, R'.ns, R'.lk, R'.lp, fun i x e q => ?_, ?_, fun i o b e r => ?_, fun i j b e r => ?_⟩, ?_⟩
  · rw [get_setO] at q ⊢
    obtain ⟨v, e1, e2⟩ := R'.vars i x e q
    exact ⟨v, e1, e2.mono K.le_refl (List.prefix_append ..)⟩
  · rw [objs_setO, List.length_append, List.length_append, R.len]; rfl
  · rw [objs_setO] at e
    by_cases hi : i < σ.objs.length
    · rw [List.getElem?_append_left hi] at e
      rw [List.getElem?_append_left (by rw [R.len]; exact hi)] at r
      exact R'.objs i o b e r
    · have : i = σ.objs.length := by
        have := (List.getElem?_eq_some_iff.mp e).1
        simp at this; omega
      subst this
      simp at e
      rw [← R.len] at r
      simp at r
      subst e r
      exact ⟨hx, ⟨vs, n, ho, hd⟩, nofun, fun _ _ => ⟨R.hp.freshK ha, R.hp.freshP ha, Nat.ne_of_gt (Nat.lt_of_lt_of_le R.ns.lt ha)⟩⟩
  · by_cases hi : i < ρ.length
    · rw [List.getElem?_append_left hi] at e
      by_cases hj : j < ρ.length
      · rw [List.getElem?_append_left hj] at r
        exact R.inj i j b e r
      · have hb := R.lt e
        have : j = ρ.length := by
          have := (List.getElem?_eq_some_iff.mp r).1
          simp at this; omega
        subst this
        simp at r
        subst r
        exact absurd hb (Nat.not_lt.mpr ha)
    · have : i = ρ.length := by
        have := (List.getElem?_eq_some_iff.mp e).1
        simp at this; omega
      subst this
      simp at e
      subst e
      by_cases hj : j < ρ.length
      · rw [List.getElem?_append_left hj] at r
        exact absurd (R.lt r) (Nat.not_lt.mpr ha)
      · have := (List.getElem?_eq_some_iff.mp r).1
        simp at this; omega
  · rw [← R.len]; simp

/-- a local list is changed -/
theorem Rel.putO (R : Rel G names P L K ρ σ m s) {h' : Heap} {tk : Nat} {i : Nat} {a : Addr} {vs : List Value} {n : Nat} {xs ys : List D} (e : σ.objs[i]? = some (.ow xs)) (r : ρ[i]? = some a)
    (ho : h'.get? a = some (lobj vs n)) (hs : ∀ b o, b ≠ a → s.heap.get? b = some o → h'.get? b = some o) (hd : DL G.fa K ys vs) (hx : ys.length ≤ 1000) :
    Rel G names P L K ρ (σ.setO (σ.objs.set i (.ow ys))) m { s with heap := h', toks := tk } := by
  have X := R.objs i _ a e r
  obtain ⟨xk, xp, xl⟩ := X.ow xs rfl
  refine ⟨R.hp.but xk xp hs, ?_, R.lk, R.lp, fun j x q z => ?_, ?_, fun j o b q z => ?_, R.inj⟩
  · exact R.ns.at' fun o q => hs L o (Ne.symm xl) q
  · rw [get_setO] at z ⊢
    exact R.vars j x q z
  · rw [objs_setO, List.length_set]; exact R.len
  · rw [objs_setO] at q
    by_cases hj : j = i
    · subst hj
      rw [List.getElem?_set_self (List.getElem?_eq_some_iff.mp e).1] at q
      cases q
      rw [r] at z
      cases z
      exact ⟨hx, ⟨vs, n, ho, hd⟩, nofun, fun _ _ => ⟨xk, xp, xl⟩⟩
    · rw [List.getElem?_set_ne (Ne.symm hj)] at q
      have hb : b ≠ a := fun y => by subst y; exact hj (R.inj j i b z r)
      exact (R.objs j o b q z).grow K.le_refl (fun _ _ _ e => e) fun ob y => hs b ob hb y

/-- freezing -/
theorem Rel.freeze (R : Rel G names P L K ρ σ m s) {d d' : D} {σ' : St} {v : Value} (hv : VR G.fa K ρ d v) (h : frz d σ = .ok d' σ') :
    ∃ K', Ext K ρ K' ρ ∧ Rel G names P L K' ρ σ' m s ∧ DR G.fa K' d' v := by
  unfold frz at h
  rcases D.onR_cases d (d.onU RE.no (.ok d σ)) (fun i => nthK σ.objs i RE.no fun o => o.con fun xs => lsetK σ.objs i (.fz xs) fun os => .ok (.list xs) (σ.setO os)) with ⟨i, rfl, q⟩ | ⟨hne, q⟩
  · rw [q] at h
    obtain ⟨o, e, h⟩ := nthK_inv h nofun
    rw [Ob.con_eq, lsetK_eq] at h
    cases h
    obtain ⟨a, r, rfl⟩ := hv.refI
    have X := R.objs i o a e r
    obtain ⟨vs, n, ho, hd⟩ := X.at'
    have hilt := (List.getElem?_eq_some_iff.mp e).1
    cases o with
    | fz xs =>
      have hK := X.fz xs rfl _ ho
      refine ⟨K, .refl .., ⟨R.hp, R.ns, R.lk, R.lp, fun j x q z => ?_, ?_, fun j o b q z => ?_, R.inj⟩, .list hK X.size hd⟩
      · rw [get_setO] at z ⊢; exact R.vars j x q z
      · rw [objs_setO, List.length_set]; exact R.len
      · rw [objs_setO] at q
        by_cases hj : j = i
        · subst hj
          rw [List.getElem?_set_self hilt] at q
          cases q
          rw [r] at z; cases z
          exact X
        · rw [List.getElem?_set_ne (Ne.symm hj)] at q
          exact R.objs j o b q z
    | ow xs =>
      obtain ⟨xk, xp, xl⟩ := X.ow xs rfl
      have le := KM.le_put (o := lobj vs n) xk
      have R' : Rel G names P L (K.put a (lobj vs n)) ρ (σ.setO (σ.objs.set i (.fz xs))) m s := by
        refine ⟨R.hp.putK ho xp, R.ns, (KM.put_ne (Ne.symm xl)).trans R.lk, R.lp, fun j x q z => ?_, ?_, fun j o b q z => ?_, R.inj⟩
        · rw [get_setO] at z ⊢
          obtain ⟨v, e1, e2⟩ := R.vars j x q z
          exact ⟨v, e1, e2.mono le List.prefix_rfl⟩
        · rw [objs_setO, List.length_set]; exact R.len
        · rw [objs_setO] at q
          by_cases hj : j = i
          · subst hj
            rw [List.getElem?_set_self hilt] at q
            cases q
            rw [r] at z; cases z
            exact ⟨X.size, ⟨vs, n, ho, hd.mono le⟩, fun _ _ ob y => by rw [ho] at y; cases y; exact KM.put_self .., nofun⟩
          · rw [List.getElem?_set_ne (Ne.symm hj)] at q
            have hb : b ≠ a := fun y => by subst y; exact hj (R.inj j i b z r)
            obtain ⟨x1, ⟨us, k, x2, x3⟩, x4, x5⟩ := R.objs j o b q z
            exact ⟨x1, ⟨us, k, x2, x3.mono le⟩, fun xs y ob w => le _ _ (x4 xs y ob w), fun xs y => ⟨(KM.put_ne hb).trans (x5 xs y).1, (x5 xs y).2⟩⟩
      exact ⟨_, ⟨le, List.prefix_rfl⟩, R', .list (KM.put_self ..) X.size (hd.mono le)⟩
  · rw [q] at h
    obtain ⟨_, h⟩ := D.onU_inv h nofun
    cases h
    exact ⟨K, .refl .., R, hv.pure hne⟩

/-- a list value, whichever -/
theorem Rel.cont (R : Rel G names P L K ρ σ m s) {α : Type} {d : D} {v : Value} {z t : α} {k : List D → α} (hv : VR G.fa K ρ d v) (h : cont σ d z k = t) (hz : z ≠ t) :
    ∃ xs a vs n, k xs = t ∧ v = .ref a ∧ s.heap.get? a = some (lobj vs n) ∧ DL G.fa K xs vs ∧ xs.length ≤ 1000 := by
  cases d with
  | list xs =>
    obtain ⟨a, vs, n, rfl, e, l, x⟩ := hv.list
    exact ⟨xs, a, vs, n, h, rfl, R.hp.keepK _ _ e, x, l⟩
  | ref i =>
    obtain ⟨o, e, h⟩ := nthK_inv (t := t) h hz
    rw [Ob.con_eq] at h
    obtain ⟨a, r, rfl⟩ := hv.refI
    have X := R.objs i o a e r
    obtain ⟨vs, n, ho, hd⟩ := X.at'
    exact ⟨_, a, vs, n, h, rfl, ho, hd, X.size⟩
  | _ => exact absurd h hz

/-- a name is stored -/
theorem Rel.store (R : Rel G names P L K ρ σ m s) {x : Lens} {i : Nat} {y : Str} {d : D} {v : Value} {h' : Heap} {tk : Nat} (hx : x.At i) (hy : names[i]? = some y) (nd : names.Nodup)
    (hv : VR G.fa K ρ d v) (hn : h'.Ns L fun z => if z = y then some v else m z) (hs : Heap.SameBut L s.heap h') :
    Rel G names P L K ρ (x.s d σ) (fun z => if z = y then some v else m z) { s with heap := h', toks := tk } := by
  have k : ∀ b o, b ≠ L → s.heap.get? b = some o → h'.get? b = some o := fun b o hb e => (hs.2 b hb).trans e
  refine ⟨R.hp.but R.lk R.lp k, hn, R.lk, R.lp, fun j z e q => ?_, by rw [hx.objs]; exact R.len, fun j o b e r => ?_, R.inj⟩
  · rw [hx.set] at q ⊢
    by_cases hj : j = i
    · subst hj
      rw [hy] at e; cases e
      exact ⟨v, by simp, by rw [if_pos rfl]; exact hv⟩
    · rw [if_neg hj] at q ⊢
      have hz : z ≠ y := fun w => hj (by
        subst w
        exact (List.getElem?_inj (List.getElem?_eq_some_iff.mp e).1 nd).mp (e.trans hy.symm))
      obtain ⟨u, e1, e2⟩ := R.vars j z e q
      exact ⟨u, (if_neg hz).trans e1, e2⟩
  · rw [hx.objs] at e
    have X := R.objs j o b e r
    have hb : b ≠ L := by
      cases o with
      | ow xs => exact (X.ow xs rfl).2.2
      | fz xs =>
        obtain ⟨vs, n, ho, _⟩ := X.at'
        have := X.fz xs rfl _ ho
        intro q; subst q; rw [R.lk] at this; cases this
    exact X.grow K.le_refl (fun _ _ _ e => e) fun ob y => k b ob hb y
end

def Room (n : Nat) (A : Around) : Prop := A.handled = none ∧ A.depth + n < 900 ∧ A.units + 8 * n < 8000
theorem Room.mono {n k : Nat} {A : Around} (h : Room n A) (hk : k ≤ n) : Room k A := ⟨h.1, by have := h.2.1; omega, by have := h.2.2; omega⟩
theorem Room.deeper {n : Nat} {A : Around} (h : Room (n + 1) A) (env : Env) : Room n (A.deeper env) :=
  ⟨h.1, by have := h.2.1; show A.depth + 1 + n < 900; omega, by have := h.2.2; show A.units + 3 + 8 * n < 8000; omega⟩
end Goo
end
-- GExpr
section
open PySem PyProof.Rows
namespace Goo
structure FC where
  name : Str
  scope : Scope
  names : List Str
structure FC.Ok (F : FC) : Prop where
  kind : F.scope.kind = .function
  nd : F.names.Nodup
  loc : ∀ x ∈ F.names, F.scope.names.lookup x = some .local ∧ (x == ("__debug__" : Str)) = false
abbrev FC.env (F : FC) (L a : Addr) (cd : Value) : Env := envOf F.name F.scope L a cd

def PE (G : GE) (F : FC) (P : KM) (L : Addr) (K : KM) (ρ : List Addr) (σ' : St) (m : Str → Option Value) (s : Shared) (d : D) (v : Value) (s' : Shared) : Prop :=
  ∃ K' ρ', Ext K ρ K' ρ' ∧ Rel G F.names P L K' ρ' σ' m s' ∧ VR G.fa K' ρ' d v ∧ Same s s'
def PT (G : GE) (F : FC) (P : KM) (L : Addr) (K : KM) (ρ : List Addr) (m : Str → Option Value) (s : Shared) (r : RT) (b : Bool) (s' : Shared) : Prop :=
  ∃ K' ρ' σ', Ext K ρ K' ρ' ∧ Rel G F.names P L K' ρ' σ' m s' ∧ r = (if b = true then .tt σ' else .ff σ') ∧ Same s s'
abbrev NoE : Value → Shared → Prop := fun _ _ => False

def OkE (G : GE) (F : FC) (n : Nat) (e : Expr) (f : EM) : Prop :=
  ∀ {A : Around} {L a : Addr} {cd : Value} {K P : KM} {ρ : List Addr} {σ : St} {m : Str → Option Value} {s : Shared} {d : D} {σ' : St}, Room n A → Rel G F.names P L K ρ σ m s → f σ = .ok d σ' →
    wpAny (model G.prog G.w) A (eval e (F.env L a cd)) (PE G F P L K ρ σ' m s d) NoE s
def OkT (G : GE) (F : FC) (n : Nat) (e : Expr) (t : TM) : Prop :=
  ∀ {A : Around} {L a : Addr} {cd : Value} {K P : KM} {ρ : List Addr} {σ : St} {m : Str → Option Value} {s : Shared}, Room n A → Rel G F.names P L K ρ σ m s → t σ ≠ .no →
    wpAny (model G.prog G.w) A (isTrue e (F.env L a cd) (eval e (F.env L a cd))) (PT G F P L K ρ m s (t σ)) NoE s
def OkOp (G : GE) (F : FC) (n : Nat) (t : Value → Value → Sem Value) (b : BM) : Prop :=
  ∀ {A : Around} {L : Addr} {K P : KM} {ρ : List Addr} {σ : St} {m : Str → Option Value} {s : Shared} {x y : D} {u v : Value} {d : D} {σ' : St}, Room n A → Rel G F.names P L K ρ σ m s →
    VR G.fa K ρ x u → VR G.fa K ρ y v → b x y σ = .ok d σ' → wpAny (model G.prog G.w) A (t u v) (PE G F P L K ρ σ' m s d) NoE s
def OkC (G : GE) (F : FC) (n : Nat) (t : Value → Value → Sem Value) (b : CM) : Prop :=
  ∀ {A : Around} {L : Addr} {K P : KM} {ρ : List Addr} {σ : St} {m : Str → Option Value} {s : Shared} {x y : D} {u v : Value} {c : Bool}, Room n A → Rel G F.names P L K ρ σ m s →
    VR G.fa K ρ x u → VR G.fa K ρ y v → b x y σ = .ok c → wpAny (model G.prog G.w) A (t u v) (fun r s' => r = .bool c ∧ Rel G F.names P L K ρ σ m s' ∧ Same s s') NoE s

section
variable {G : GE} {F : FC} {n : Nat} {P : KM} {L : Addr} {K K' : KM} {ρ ρ' : List Addr} {σ σ' : St} {m : Str → Option Value} {s s' s'' : Shared} {d : D} {v : Value}
theorem PE.of (R : Rel G F.names P L K ρ σ m s') (hv : VR G.fa K ρ d v) (hs : Same s s') : PE G F P L K ρ σ m s d v s' := ⟨K, ρ, .refl .., R, hv, hs⟩
theorem PE.up {d : D} {v : Value} (x : Ext K ρ K' ρ') (hs : Same s s') (h : PE G F P L K' ρ' σ' m s' d v s'') : PE G F P L K ρ σ' m s d v s'' := by
  obtain ⟨K₂, ρ₂, e, R, q, z⟩ := h
  exact ⟨K₂, ρ₂, x.trans e, R, q, hs.trans z⟩
theorem PE.intI (R : Rel G F.names P L K ρ σ m s) {z : Int} {t k : Nat} {d : D} {σ' : St} (h : retI z σ = .ok d σ') : PE G F P L K ρ σ' m s d (.int z t) { s with toks := k } := by
  unfold retI at h
  rw [forceI_eq] at h
  cases h
  exact .of R.tok (.d (.int _ _)) (.of s s.heap k)

theorem eV_inv {x : Lens} (h : eV x σ = .ok d σ') : d = x.g σ ∧ σ' = σ ∧ d ≠ .undef := by
  unfold eV at h
  generalize x.g σ = y at h ⊢
  cases y <;> cases h <;> exact ⟨rfl, rfl, nofun⟩
end

section
variable {G : GE} {F : FC} {n : Nat}
theorem ok_var (hF : F.Ok) {x : Lens} {i : Nat} {y : Str} {pos : Pos} (hx : x.At i) (hy : F.names[i]? = some y) : OkE G F n (.Name y pos) (eV x) := by
  intro A L a cd K P ρ σ m s d σ' hA R h
  obtain ⟨rfl, rfl, hu⟩ := eV_inv h
  rw [hx.get] at hu ⊢
  obtain ⟨v, e1, e2⟩ := R.vars i y hy hu
  obtain ⟨l1, l2⟩ := hF.loc y (List.mem_of_getElem? hy)
  exact wpAny_Name (wpAny_loadName_local (env := F.env L a cd) hF.kind l1 R.ns e1 (.of R e2 (.refl s))) l2
theorem ok_int {z : Int} {k kk : Nat} {pos : Pos} (h : z = (k : Int)) : OkE G F n (.Constant (.int z) kk pos) (eI k) := by
  intro A L a cd K P ρ σ m s d σ' hA R h'
  subst h
  exact wpAny_Constant_int (PE.intI R h')
theorem ok_none {kk : Nat} {pos : Pos} : OkE G F n (.Constant .none kk pos) eN := by
  intro A L a cd K P ρ σ m s d σ' hA R h
  cases h
  exact wpAny_Constant_none (.of R (.d .none) (.refl s))
theorem name_glob (hF : F.Ok) (hG : GOk G) {L a : Addr} {cd : Value} {K P : KM} {ρ : List Addr} {σ : St} {m : Str → Option Value} {s : Shared} {A : Around} {Q : Value → Shared → Prop} {y : Str} {pos : Pos} {v : Value}
    (R : Rel G F.names P L K ρ σ m s) (hl : F.scope.names.lookup y = some .globalImplicit) (hd : (y == ("__debug__" : Str)) = false) (hv : G.mg y = some v) (hQ : Q v s) :
    wpAny (model G.prog G.w) A (eval (.Name y pos) (F.env L a cd)) Q NoE s :=
  Calls.Name_function_global (env := F.env L a cd) hF.kind hl (Calls.loadGlobal_global (env := F.env L a cd) (hG.g.keeps R.hp.stays) hv hQ) hd
theorem name_bi (hF : F.Ok) (hG : GOk G) {L a : Addr} {cd : Value} {K P : KM} {ρ : List Addr} {σ : St} {m : Str → Option Value} {s : Shared} {A : Around} {Q : Value → Shared → Prop} {y : Str} {pos : Pos} {v : Value}
    (R : Rel G F.names P L K ρ σ m s) (hl : F.scope.names.lookup y = some .globalImplicit) (hd : (y == ("__debug__" : Str)) = false) (hm : (y, v) ∈ biNames) (hQ : Q v s) :
    wpAny (model G.prog G.w) A (eval (.Name y pos) (F.env L a cd)) Q NoE s :=
  Calls.Name_function_global (env := F.env L a cd) hF.kind hl (Calls.loadGlobal_builtin (env := F.env L a cd) (hG.g.keeps R.hp.stays) (hG.bi _ hm).1 (hG.b.keeps R.hp.stays) (hG.bi _ hm).2 hQ) hd
theorem ok_glob (hF : F.Ok) (hG : GOk G) {k : Nat} {y : Str} {pos : Pos} (hl : F.scope.names.lookup y = some .globalImplicit) (hd : (y == ("__debug__" : Str)) = false) (hv : G.mg y = some (.ref (G.fa k))) : OkE G F n (.Name y pos) (eG k) := by
  intro A L a cd K P ρ σ m s d σ' hA R h
  cases h
  exact name_glob hF hG R hl hd hv (.of R (.d (.fn k)) (.refl s))
theorem ok_neg {e : Expr} {f : EM} {pos : Pos} (he : OkE G F n e f) : OkE G F n (.UnaryOp .USub e pos) (eNeg f) := by
  intro A L a cd K P ρ σ m s d σ' hA R h
  obtain ⟨d₁, σ₁, h1, h2⟩ := RE.inv h nofun
  obtain ⟨i, rfl, h3⟩ := D.onI_inv h2 nofun
  refine UnaryOp_ (wpAny_mono (he hA R h1) (fun v s₁ ⟨K₁, ρ₁, x, R₁, hv, hs⟩ => ?_) fun _ _ x => x)
  obtain ⟨t, rfl⟩ := hv.int
  rw [zneg_eq] at h3
  exact neg_int (PE.up x hs (PE.intI R₁ h3))
theorem ok_bin {l r : Expr} {op : Operator} {f g : EM} {b : BM} {pos : Pos} (hl : OkE G F n l f) (hr : OkE G F n r g) (hb : OkOp G F n (binaryOp op) b) : OkE G F n (.BinOp l op r pos) (eBin b f g) := by
  intro A L a cd K P ρ σ m s d σ' hA R h
  obtain ⟨d₁, σ₁, h1, h⟩ := RE.inv h nofun
  obtain ⟨d₂, σ₂, h2, h⟩ := RE.inv h nofun
  refine wpAny_BinOp (wpAny_mono (hl hA R h1) (fun v s₁ ⟨K₁, ρ₁, x₁, R₁, hv₁, hs₁⟩ => wpAny_mono (hr hA R₁ h2) (fun u s₂ ⟨K₂, ρ₂, x₂, R₂, hv₂, hs₂⟩ =>
    wpAny_mono (hb hA R₂ (hv₁.ext x₂) hv₂ h) (fun w s₃ q => PE.up (x₁.trans x₂) (hs₁.trans hs₂) q) fun _ _ x => x) fun _ _ x => x) fun _ _ x => x)

theorem iBin_inv {h : Int → Int → EM} {x y : D} {σ σ' : St} {d : D} (e : iBin h x y σ = .ok d σ') : ∃ i j, x = .int i ∧ y = .int j ∧ h i j σ = .ok d σ' := by
  obtain ⟨i, rfl, e1⟩ := D.onI_inv e nofun
  obtain ⟨j, rfl, e2⟩ := D.onI_inv e1 nofun
  exact ⟨i, j, rfl, rfl, e2⟩
theorem nBin_inv {h : Nat → Nat → EM} {x y : D} {σ σ' : St} {d : D} (e : nBin h x y σ = .ok d σ') : ∃ i j : Nat, x = .int i ∧ y = .int j ∧ h i j σ = .ok d σ' := by
  obtain ⟨i, j, rfl, rfl, e1⟩ := iBin_inv e
  obtain ⟨i', rfl, e2⟩ := onZ_inv e1 nofun
  obtain ⟨j', rfl, e3⟩ := onZ_inv e2 nofun
  exact ⟨i', j', rfl, rfl, e3⟩
theorem op_sub : OkOp G F n (binaryOp .Sub) bSub := by
  intro A L K P ρ σ m s x y u v d σ' hA R hx hy h
  obtain ⟨i, j, rfl, rfl, h1⟩ := iBin_inv h
  obtain ⟨t, rfl⟩ := hx.int
  obtain ⟨t', rfl⟩ := hy.int
  rw [zsub_eq] at h1
  exact sub_int (PE.intI R h1)
theorem op_isub : OkOp G F n (inplaceOp .Sub) bSub := by
  intro A L K P ρ σ m s x y u v d σ' hA R hx hy h
  obtain ⟨i, j, rfl, rfl, h1⟩ := iBin_inv h
  obtain ⟨t, rfl⟩ := hx.int
  obtain ⟨t', rfl⟩ := hy.int
  rw [zsub_eq] at h1
  exact isub_int (PE.intI R h1)

theorem fdiv_nat (x p : Nat) : ((x / (p + 1) : Nat) : Int) = Int.fdiv (x : Int) ((p + 1 : Nat) : Int) := by
  rw [Int.fdiv_eq_ediv_of_nonneg _ (by omega)]; rfl
theorem fmod_nat (x p : Nat) : ((x % (p + 1) : Nat) : Int) = Int.fmod (x : Int) ((p + 1 : Nat) : Int) := by
  rw [Int.fmod_eq_emod_of_nonneg _ (by omega)]; rfl
theorem shr_nat (x n : Nat) : ((x >>> n : Nat) : Int) = Int.fdiv (x : Int) (2 ^ n) := by
  rw [Int.fdiv_eq_ediv_of_nonneg _ (by exact Int.le_of_lt (Int.pow_pos (by decide))), Nat.shiftRight_eq_div_pow]; push_cast; rfl
theorem shl_nat (x n : Nat) : ((x <<< n : Nat) : Int) = (x : Int) * 2 ^ n := by
  rw [Nat.shiftLeft_eq]; push_cast; rfl
theorem bitNot_eq (x : Int) : Builtin.bitNot x = -x - 1 := by
  unfold Builtin.bitNot; omega
theorem and_nat (x n : Nat) : ((x &&& n : Nat) : Int) = Builtin.bitAnd (x : Int) n := by
  unfold Builtin.bitAnd
  rw [decide_eq_true (Int.natCast_nonneg x), decide_eq_true (Int.natCast_nonneg n)]
  rfl
theorem or_nat (x n : Nat) : ((x ||| n : Nat) : Int) = Builtin.bitOr (x : Int) n := by
  unfold Builtin.bitOr Builtin.bitAnd
  simp only [bitNot_eq]
  rw [decide_eq_false (by omega), decide_eq_false (by omega)]
  have e : ∀ k : Nat, (-(-(k : Int) - 1) - 1) = k := fun k => by omega
  simp only [e, Int.toNat_natCast]
theorem op_mod : OkOp G F n (binaryOp .Mod) bMod := by
  intro A L K P ρ σ m s x y u v d σ' hA R hx hy h
  obtain ⟨i, j, rfl, rfl, h1⟩ := nBin_inv h
  obtain ⟨t, rfl⟩ := hx.int
  obtain ⟨t', rfl⟩ := hy.int
  obtain ⟨p, rfl, h2⟩ := onNat_inv h1 nofun
  rw [show Int.ofNat (Nat.mod i (Nat.succ p)) = _ from fmod_nat i p] at h2
  exact mod_int' (by omega) (PE.intI R h2)
theorem op_imod : OkOp G F n (inplaceOp .Mod) bMod := by
  intro A L K P ρ σ m s x y u v d σ' hA R hx hy h
  obtain ⟨i, j, rfl, rfl, h1⟩ := nBin_inv h
  obtain ⟨t, rfl⟩ := hx.int
  obtain ⟨t', rfl⟩ := hy.int
  obtain ⟨p, rfl, h2⟩ := onNat_inv h1 nofun
  rw [show Int.ofNat (Nat.mod i (Nat.succ p)) = _ from fmod_nat i p] at h2
  exact imod_int (by omega) (PE.intI R h2)
theorem op_div : OkOp G F n (binaryOp .FloorDiv) bDiv := by
  intro A L K P ρ σ m s x y u v d σ' hA R hx hy h
  obtain ⟨i, j, rfl, rfl, h1⟩ := nBin_inv h
  obtain ⟨t, rfl⟩ := hx.int
  obtain ⟨t', rfl⟩ := hy.int
  obtain ⟨p, rfl, h2⟩ := onNat_inv h1 nofun
  obtain ⟨c2, h4⟩ := onB_inv h2 nofun
  have c2 : p ≤ 2 ^ 28 := ble_iff.mp c2
  rw [show Int.ofNat (Nat.div i (Nat.succ p)) = _ from fdiv_nat i p] at h4
  exact floordiv_int (by omega) (PE.intI R h4) (Or.inl (PyProof.noPylong_small (by omega)))
theorem op_and : OkOp G F n (binaryOp .BitAnd) bAnd := by
  intro A L K P ρ σ m s x y u v d σ' hA R hx hy h
  obtain ⟨i, j, rfl, rfl, h1⟩ := nBin_inv h
  obtain ⟨t, rfl⟩ := hx.int
  obtain ⟨t', rfl⟩ := hy.int
  rw [show Int.ofNat (Nat.land i j) = _ from and_nat i j] at h1
  exact and_int (PE.intI R h1)
theorem op_or : OkOp G F n (binaryOp .BitOr) bOr := by
  intro A L K P ρ σ m s x y u v d σ' hA R hx hy h
  obtain ⟨i, j, rfl, rfl, h1⟩ := nBin_inv h
  obtain ⟨t, rfl⟩ := hx.int
  obtain ⟨t', rfl⟩ := hy.int
  rw [show Int.ofNat (Nat.lor i j) = _ from or_nat i j] at h1
  exact or_int (PE.intI R h1)
theorem op_ior : OkOp G F n (inplaceOp .BitOr) bOr := by
  intro A L K P ρ σ m s x y u v d σ' hA R hx hy h
  obtain ⟨i, j, rfl, rfl, h1⟩ := nBin_inv h
  obtain ⟨t, rfl⟩ := hx.int
  obtain ⟨t', rfl⟩ := hy.int
  rw [show Int.ofNat (Nat.lor i j) = _ from or_nat i j] at h1
  exact ior_int (PE.intI R h1)
theorem op_shr : OkOp G F n (binaryOp .RShift) bShr := by
  intro A L K P ρ σ m s x y u v d σ' hA R hx hy h
  obtain ⟨i, j, rfl, rfl, h1⟩ := nBin_inv h
  obtain ⟨t, rfl⟩ := hx.int
  obtain ⟨t', rfl⟩ := hy.int
  rw [show Int.ofNat (Nat.shiftRight i j) = _ from shr_nat i j] at h1
  exact rshift_int (Int.natCast_nonneg j) (PE.intI R h1)
theorem op_ishr : OkOp G F n (inplaceOp .RShift) bShr := by
  intro A L K P ρ σ m s x y u v d σ' hA R hx hy h
  obtain ⟨i, j, rfl, rfl, h1⟩ := nBin_inv h
  obtain ⟨t, rfl⟩ := hx.int
  obtain ⟨t', rfl⟩ := hy.int
  rw [show Int.ofNat (Nat.shiftRight i j) = _ from shr_nat i j] at h1
  exact irshift_int (Int.natCast_nonneg j) (PE.intI R h1)
theorem op_shl : OkOp G F n (binaryOp .LShift) bShl := by
  intro A L K P ρ σ m s x y u v d σ' hA R hx hy h
  obtain ⟨i, j, rfl, rfl, h1⟩ := nBin_inv h
  obtain ⟨t, rfl⟩ := hx.int
  obtain ⟨t', rfl⟩ := hy.int
  obtain ⟨c1, h2⟩ := onB_inv h1 nofun
  obtain ⟨c2, h3⟩ := onB_inv h2 nofun
  have c1 : i ≤ 2 ^ 60 := ble_iff.mp c1
  have c2 : j ≤ 1000 := ble_iff.mp c2
  rw [show Int.ofNat (Nat.shiftLeft i j) = _ from shl_nat i j] at h3
  exact lshift_int_small (Int.natCast_nonneg j) (by omega) (by omega) (PE.intI R h3)
theorem op_pow : OkOp G F n (binaryOp .Pow) bPow := by
  intro A L K P ρ σ m s x y u v d σ' hA R hx hy h
  obtain ⟨i, j, rfl, rfl, h1⟩ := nBin_inv h
  obtain ⟨t, rfl⟩ := hx.int
  obtain ⟨t', rfl⟩ := hy.int
  obtain ⟨c1, h2⟩ := onB_inv h1 nofun
  obtain ⟨c2, h3⟩ := onB_inv h2 nofun
  have c1 : i ≤ 2 ^ 20 := ble_iff.mp c1
  have c2 : j ≤ 100 := ble_iff.mp c2
  rw [show Int.ofNat (Nat.pow i j) = (i : Int) ^ (j : Int).toNat by rw [Int.toNat_natCast]; exact Int.natCast_pow i j] at h3
  refine pow_int (Int.natCast_nonneg j) ?_ (PE.intI R h3)
  have hb : Builtin.Int.intBits (i : Int) ≤ 64 := intBits_le_64 (by omega) (by omega)
  have : (Builtin.Int.intBits (i : Int) : Int) * (j : Int) ≤ 64 * 100 := Int.mul_le_mul (by omega) (by omega) (by omega) (by omega)
  omega
end
end Goo
end
-- GExpr2
section
open PySem PyProof.Rows
namespace Goo
section
variable {G : GE} {F : FC} {n : Nat}
theorem isList_of {h : Heap} {a : Addr} {vs : List Value} {k : Nat} (e : h.get? a = some (lobj vs k)) : h.IsList a vs.toArray := ⟨_, e, rfl, k, rfl⟩

theorem newL_inv {xs : List D} {σ σ' : St} {d : D} (h : newL xs σ = .ok d σ') : xs.length ≤ 1000 ∧ d = .ref σ.objs.length ∧ σ' = σ.setO (σ.objs ++ [.ow xs]) := by
  unfold newL at h
  rw [forceL_eq] at h
  obtain ⟨c, h1⟩ := onB_inv h nofun
  rw [appK_eq, forceN_eq, len_eq] at h1
  rw [len_eq] at c
  cases h1
  exact ⟨ble_iff.mp c, rfl, rfl⟩
section
variable {P : KM} {L : Addr} {K : KM} {ρ : List Addr} {σ σ' : St} {m : Str → Option Value} {s : Shared} {d : D}
theorem PE.newL (R : Rel G F.names P L K ρ σ m s) {xs : List D} {vs : List Value} (hd : DL G.fa K xs vs) (h : newL xs σ = .ok d σ') {h' : Heap} {tk a : Nat} {q : Nat} (ha : s.heap.objs.size ≤ a)
    (ho : h'.get? a = some (lobj vs q)) (k : ∀ b o, s.heap.get? b = some o → h'.get? b = some o) : PE G F P L K ρ σ' m s d (.ref a) { s with heap := h', toks := tk } := by
  obtain ⟨hl, rfl, rfl⟩ := newL_inv h
  obtain ⟨R', e⟩ := R.newO (tk := tk) ha ho k hd hl
  exact ⟨K, _, ⟨K.le_refl, List.prefix_append ..⟩, R', .ref e, .of ..⟩
theorem PE.newK (R : Rel G F.names P L K ρ σ m s) {xs : List D} {vs : List Value} (hd : DL G.fa K xs vs) (hl : xs.length ≤ 1000) {h' : Heap} {tk a : Nat} {q : Nat} (ha : s.heap.objs.size ≤ a)
    (ho : h'.get? a = some (lobj vs q)) (k : ∀ b o, s.heap.get? b = some o → h'.get? b = some o) : PE G F P L K ρ σ m s (.list xs) (.ref a) { s with heap := h', toks := tk } := by
  have le := KM.le_put (o := lobj vs q) (R.hp.freshK ha)
  exact ⟨_, ρ, ⟨le, List.prefix_rfl⟩, R.newK ha ho k, .d (.list (KM.put_self ..) hl (hd.mono le)), .of ..⟩
theorem PE.newT (R : Rel G F.names P L K ρ σ m s) {xs : List D} {vs : List Value} (hd : DL G.fa K xs vs) (hl : xs.length ≤ 1000) {h' : Heap} {tk a : Nat} {q : Nat} (ha : s.heap.objs.size ≤ a)
    (ho : h'.get? a = some (tobj vs q)) (k : ∀ b o, s.heap.get? b = some o → h'.get? b = some o) : PE G F P L K ρ σ m s (.tup xs) (.ref a) { s with heap := h', toks := tk } := by
  have le := KM.le_put (o := tobj vs q) (R.hp.freshK ha)
  exact ⟨_, ρ, ⟨le, List.prefix_rfl⟩, R.newK ha ho k, .d (.tup (KM.put_self ..) hl (hd.mono le)), .of ..⟩
end
theorem size_lt {k : Nat} (h : k ≤ 1000) : k ≤ sizeLine := by rw [sizeLine_eq]; omega
theorem keep_push (h : Heap) (o : Obj) : ∀ b o', h.get? b = some o' → (h.push o).get? b = some o' := fun _ _ e => Heap.get?_push_of_some _ e

theorem op_add : OkOp G F n (binaryOp .Add) bAdd := by
  intro A L K P ρ σ m s x y u v d σ' hA R hx hy h
  unfold bAdd at h
  rcases D.onI_cases x (cont σ x RE.no fun xs => cont σ y RE.no fun ys => newL (List.append xs ys) σ) (fun x => y.onI RE.no fun y => retI (zadd x y) σ) with ⟨i, rfl, e⟩ | ⟨_, e⟩
  · rw [e] at h
    obtain ⟨j, rfl, h1⟩ := D.onI_inv h nofun
    obtain ⟨t, rfl⟩ := hx.int
    obtain ⟨t', rfl⟩ := hy.int
    rw [zadd_eq] at h1
    exact add_int (PE.intI R h1)
  · rw [e] at h
    obtain ⟨xs, a, vs, q, h1, rfl, ha, hd, hl⟩ := R.cont hx h nofun
    obtain ⟨ys, b, us, r, h2, rfl, hb, hd', hl'⟩ := R.cont hy h1 nofun
    refine PySem.P.add_list (n := q) (n2 := r) ha hb (PE.newL R (hd.append hd') h2 (tk := s.toks) (q := 0) (Nat.le_refl _) ?_ (keep_push _ _)) ?_
    · rw [Heap.get?_push_size _ rfl]; simp [lobj]
    · have h3 := hd.length
      have h4 := hd'.length
      simp only [List.size_toArray]
      rw [sizeLine_eq]
      omega
theorem op_iadd : OkOp G F n (inplaceOp .Add) bIAdd := by
  intro A L K P ρ σ m s x y u v d σ' hA R hx hy h
  obtain ⟨i, j, rfl, rfl, h1⟩ := iBin_inv h
  obtain ⟨t, rfl⟩ := hx.int
  obtain ⟨t', rfl⟩ := hy.int
  rw [zadd_eq] at h1
  exact iadd_int (PE.intI R h1)

theorem foldl_rep (v : Value) : ∀ (k : Nat) (acc : Array Value), List.foldl (fun a b => a ++ b) acc (List.replicate k #[v]) = acc ++ (List.replicate k v).toArray
  | 0, acc => by simp
  | k + 1, acc => by
    rw [List.replicate_succ, List.foldl_cons, foldl_rep v k, List.replicate_succ]
    apply Array.ext'
    simp
theorem mul_small {x y : Int} (hx : small x = true) (hy : small y = true) : IntMulOk x y := by
  have h := small_le hx
  exact .of_left (intBits_le_64 (by omega) (by omega))
theorem op_mul : OkOp G F n (binaryOp .Mult) bMul := by
  intro A L K P ρ σ m s x y u v d σ' hA R hx hy h
  unfold bMul at h
  obtain ⟨j, rfl, h1⟩ := D.onI_inv h nofun
  obtain ⟨t', rfl⟩ := hy.int
  rcases D.onI_cases x (x.onR RE.no fun i => nthK σ.objs i RE.no fun o => onZ j (fun n => o.con fun xs => List.casesOn (motive := fun _ => RE) xs RE.no fun x r => List.casesOn (motive := fun _ => RE) r (onB (Nat.ble n 1000) (newL (repl n x) σ) .no) fun _ _ => .no) fun _ => .no)
    (fun x => onB (small x) (onB (small j) (retI (zmul x j) σ) .no) .no) with ⟨i, rfl, e⟩ | ⟨_, e⟩
  · rw [e] at h1
    obtain ⟨t, rfl⟩ := hx.int
    obtain ⟨c1, h2⟩ := onB_inv h1 nofun
    obtain ⟨c2, h3⟩ := onB_inv h2 nofun
    rw [zmul_eq] at h3
    exact mul_int (PE.intI R h3) (mul_small c1 c2)
  · rw [e] at h1
    obtain ⟨i, rfl, h2⟩ := D.onR_inv h1 nofun
    obtain ⟨o, eo, h3⟩ := nthK_inv h2 nofun
    obtain ⟨k, rfl, h4⟩ := onZ_inv h3 nofun
    rw [Ob.con_eq] at h4
    obtain ⟨a, r, rfl⟩ := hx.refI
    have X := R.objs i o a eo r
    obtain ⟨vs, q, ha, hd⟩ := X.at'
    generalize o.cs = xs at h4 hd
    cases hd with
    | nil => cases h4
    | cons hd1 hd2 =>
      cases hd2 with
      | cons _ _ => cases h4
      | nil =>
        rename_i x0 v0
        obtain ⟨c, h5⟩ := onB_inv h4 nofun
        have c := ble_iff.mp c
        rw [repl_eq] at h5
        have hT : s.TypeIs (.ref a) "list" := ⟨_, ha, rfl⟩
        refine wpAny_binaryOp_repeat_ref (T := "list") (U := "int") (by decide) hT (fun s' => typeIs_int s' _ _) noFill_list_mul PySem.F.fills_int_mul PySem.F.slot_int_rmul repeat_list PySem.F.slot_int_index.lookup
          (call_meets PySem.F.slot_int_rmul (typeIs_int s _ _) PySem.F.entry_int_rmul (PySem.F.args_int_rmul_2 _ _) (int___rmul___int_list _ _ a _ q) ⟨ha, rfl, hT, ?_⟩)
        refine call_meets PySem.F.slot_list_mul hT PySem.F.entry_list_mul (PySem.F.args_list_mul_2 _ _) (AutoListH.list___mul___list_int_3 a _ q _ _ ?_ ?_ ?_) ⟨ha, ?_⟩
        · simp [Builtin.List.listFitsIndex]; omega
        · simp; omega
        · simp [Builtin.List.listTooLong, sizeLine]; omega
        · refine PE.newL R (DL.replicate hd1 k) h5 (tk := s.toks) (q := 0) (Nat.le_refl _) ?_ (keep_push _ _)
          rw [Heap.get?_push_size _ rfl]
          simp only [lobj, Int.toNat_natCast]
          rw [if_neg (by simp), show [v0].toArray = #[v0] from rfl, foldl_rep]
          simp
end
end Goo
end
-- GExpr3
section
open PySem PyProof.Rows
namespace Goo
section
variable {G : GE} {F : FC} {n : Nat}

theorem getI_inv {α : Type} {xs : List D} {k : Int} {z t : α} {h : D → α} (e : getI xs k z h = t) (hz : z ≠ t) :
    ∃ x i, xs[i]? = some x ∧ h x = t ∧ ((0 ≤ k ∧ k.toNat = i) ∨ (k < 0 ∧ -(xs.length : Int) ≤ k ∧ (k + xs.length).toNat = i)) := by
  cases k with
  | ofNat k =>
    obtain ⟨x, e1, e2⟩ := nthK_inv e hz
    exact ⟨x, k, e1, e2, .inl ⟨Int.natCast_nonneg k, rfl⟩⟩
  | negSucc k =>
    obtain ⟨c, e1⟩ := onB_inv e hz
    obtain ⟨x, e2, e3⟩ := nthK_inv e1 hz
    have c := ble_iff.mp c
    rw [len_eq] at c e2
    refine ⟨x, _, e2, e3, .inr ⟨Int.negSucc_lt_zero k, ?_, ?_⟩⟩
    · rw [Int.negSucc_eq]; omega
    · rw [Int.negSucc_eq]
      show _ = xs.length - (k + 1)
      omega
theorem op_idx : OkOp G F n getItem bIdx := by
  intro A L K P ρ σ m s x y u v d σ' hA R hx hy h
  obtain ⟨k, rfl, h1⟩ := D.onI_inv h nofun
  obtain ⟨t, rfl⟩ := hy.int
  obtain ⟨xs, a, vs, q, h2, rfl, ha, hd, hl⟩ := R.cont hx h1 nofun
  obtain ⟨e, i, e1, e2, e3⟩ := getI_inv h2 nofun
  cases e2
  obtain ⟨v, v1, v2⟩ := hd.get e1
  have hlt : i < xs.length := (List.getElem?_eq_some_iff.mp e1).1
  have hle := hd.length
  rcases e3 with ⟨k0, rfl⟩ | ⟨k0, k1, rfl⟩
  · exact wpAny_getItem_list (isList_of ha) k0 (by omega) (by simpa using v1) (.of R (.d v2) (.refl s))
  · refine wpAny_getItem_list_neg (isList_of ha) k0 ?_ (by omega) ?_ (.of R (.d v2) (.refl s))
    · simp only [List.size_toArray]; omega
    · simp only [List.size_toArray, List.getElem?_toArray]
      rw [← hle]; exact v1

theorem list_getitem {vl sl : Expr} {o i : Value} {Q : Value → Shared → Prop} {A : Around} {s : Shared} (hT : s.TypeIs o "list") (h : wpAny (model G.prog G.w) A (getItem o i) Q NoE s)
    (hs : subscripted sl false o i = operate [o, i] (getItem o i)) : wpAny (model G.prog G.w) A (subscriptTail vl sl o i) Q NoE s := by
  unfold subscriptTail
  refine wpAny_bind ?_
  rw [getitemInPython_of_ne hT.not_modules]
  refine wpAny_bind (wpAny_specialOf hT list_getitem_lookup ?_)
  have fin : wpAny (model G.prog G.w) A (subscripted sl false o i) (fun r s₃ => wpAny (model G.prog G.w) A (letTemporaryGo vl o r >>= fun _ => pure r) Q NoE s₃) NoE s := by
    rw [hs]
    exact wpAny_operating (wpAny_mono h (fun r s₃ h₃ => wpAny_bind (wpAny_letTemporaryGo (wpAny_pure h₃))) fun _ _ x => x)
  first
    | exact wpAny_pure (wpAny_bind fin)
    | exact wpAny_bind (wpAny_pure (wpAny_bind fin))
    | exact wpAny_bind fin
theorem ok_idx {vl sl : Expr} {f g : EM} {pos : Pos} (hf : OkE G F n vl f) (hg : OkE G F n sl g) (hs : ∀ o i, subscripted sl false o i = operate [o, i] (getItem o i)) :
    OkE G F n (.Subscript vl sl pos) (eBin bIdx f g) := by
  intro A L a cd K P ρ σ m s d σ' hA R h
  obtain ⟨d₁, σ₁, h1, h2⟩ := RE.inv h nofun
  obtain ⟨d₂, σ₂, h3, h4⟩ := RE.inv h2 nofun
  refine Subscript_ (wpAny_mono (hf hA R h1) (fun v s₁ ⟨K₁, ρ₁, x₁, R₁, hv₁, hs₁⟩ => wpAny_mono (hg hA R₁ h3) (fun u s₂ ⟨K₂, ρ₂, x₂, R₂, hv₂, hs₂⟩ => ?_) fun _ _ x => x) fun _ _ x => x)
  have hv := hv₁.ext x₂
  obtain ⟨k, e, h5⟩ := D.onI_inv h4 nofun
  obtain ⟨xs, b, vs, q, _, rfl, hb, _, _⟩ := R₂.cont hv h5 nofun
  exact list_getitem ⟨_, hb, rfl⟩ (wpAny_mono (op_idx hA R₂ hv hv₂ h4) (fun w s₃ q => PE.up (x₁.trans x₂) (hs₁.trans hs₂) q) fun _ _ x => x) (hs _ _)

theorem PT.up {P : KM} {L : Addr} {K K' : KM} {ρ ρ' : List Addr} {m : Str → Option Value} {s s' s'' : Shared} {r : RT} {b : Bool} (x : Ext K ρ K' ρ') (hs : Same s s') (h : PT G F P L K' ρ' m s' r b s'') : PT G F P L K ρ m s r b s'' := by
  obtain ⟨K₂, ρ₂, σ₂, e, R, q, z⟩ := h
  exact ⟨K₂, ρ₂, σ₂, x.trans e, R, q, hs.trans z⟩
theorem ok_if {t b e : Expr} {t' : TM} {f g : EM} {pos : Pos} (ht : OkT G F n t t') (hf : OkE G F n b f) (hg : OkE G F n e g) : OkE G F n (.IfExp t b e pos) (eIf t' f g) := by
  intro A L a cd K P ρ σ m s d σ' hA R h
  have hne : t' σ ≠ .no := fun q => by unfold eIf at h; rw [q] at h; cases h
  refine IfExp_ (wpAny_mono (ht hA R hne) (fun c s₁ ⟨K₁, ρ₁, σ₁, x₁, R₁, e₁, hs₁⟩ => ?_) fun _ _ x => x)
  unfold eIf at h
  rw [e₁] at h
  cases c with
  | true => exact wpAny_mono (hf hA R₁ h) (fun v s₂ q => PE.up x₁ hs₁ q) fun _ _ x => x
  | false => exact wpAny_mono (hg hA R₁ h) (fun v s₂ q => PE.up x₁ hs₁ q) fun _ _ x => x

theorem ok_cmp {l r : Expr} {op : CmpOp} {f g : EM} {c : CM} {pos : Pos} (hl : OkE G F n l f) (hr : OkE G F n r g) (hc : OkC G F n (compareOp op) c) (hm : behindInMarks op r = false) :
    OkT G F n (.Compare l [op] [r] pos) (tCmp c f g) := by
  intro A L a cd K P ρ σ m s hA R h
  obtain ⟨d₁, σ₁, h1, h2⟩ := RE.inv rfl (Ne.symm h)
  obtain ⟨d₂, σ₂, h3, h4⟩ := RE.inv h2 (Ne.symm h)
  obtain ⟨b, h5, h6⟩ := RO.inv h4 (Ne.symm h)
  refine wpAny_isTrue_Compare1 (wpAny_mono (hl hA R h1) (fun v s₁ ⟨K₁, ρ₁, x₁, R₁, hv₁, hs₁⟩ => wpAny_mono (hr hA R₁ h3) (fun u s₂ ⟨K₂, ρ₂, x₂, R₂, hv₂, hs₂⟩ =>
    wpAny_mono (hc hA R₂ (hv₁.ext x₂) hv₂ h5) (fun w s₃ ⟨e, R₃, hs₃⟩ => ?_) fun _ _ x => x) fun _ _ x => x) fun _ _ x => x) hm
  subst e
  refine wpAny_truthy_bool ⟨K₂, ρ₂, σ₂, x₁.trans x₂, R₃, ?_, (hs₁.trans hs₂).trans hs₃⟩
  exact Eq.trans h6.symm (onB_eq ..)
theorem ok_and {t u : Expr} {f g : TM} {pos : Pos} (ht : OkT G F n t f) (hu : OkT G F n u g) : OkT G F n (.BoolOp .And [t, u] pos) (tAnd f g) := by
  intro A L a cd K P ρ σ m s hA R h
  have hne : f σ ≠ .no := fun q => h (by unfold tAnd; rw [q]; rfl)
  refine isTrue_and (wpAny_mono (ht hA R hne) (fun c s₁ ⟨K₁, ρ₁, σ₁, x₁, R₁, e₁, hs₁⟩ => ?_) fun _ _ x => x)
  unfold tAnd at h ⊢
  rw [e₁] at h ⊢
  cases c with
  | true =>
    refine isTrue_and (wpAny_mono (hu hA R₁ h) (fun c s₂ q => ?_) fun _ _ x => x)
    cases c with
    | true => exact isTrue_and_nil (PT.up x₁ hs₁ q)
    | false => exact PT.up x₁ hs₁ q
  | false => exact ⟨K₁, ρ₁, σ₁, x₁, R₁, rfl, hs₁⟩
theorem ok_or {t u : Expr} {f g : TM} {pos : Pos} (ht : OkT G F n t f) (hu : OkT G F n u g) : OkT G F n (.BoolOp .Or [t, u] pos) (tOr f g) := by
  intro A L a cd K P ρ σ m s hA R h
  have hne : f σ ≠ .no := fun q => h (by unfold tOr; rw [q]; rfl)
  refine isTrue_or (wpAny_mono (ht hA R hne) (fun c s₁ ⟨K₁, ρ₁, σ₁, x₁, R₁, e₁, hs₁⟩ => ?_) fun _ _ x => x)
  unfold tOr at h ⊢
  rw [e₁] at h ⊢
  cases c with
  | false =>
    refine isTrue_or (wpAny_mono (hu hA R₁ h) (fun c s₂ q => ?_) fun _ _ x => x)
    cases c with
    | true => exact PT.up x₁ hs₁ q
    | false => exact isTrue_or_nil (PT.up x₁ hs₁ q)
  | true => exact ⟨K₁, ρ₁, σ₁, x₁, R₁, rfl, hs₁⟩
theorem ok_not {t : Expr} {f : TM} {pos : Pos} (ht : OkT G F n t f) : OkT G F n (.UnaryOp .Not t pos) (tNot f) := by
  intro A L a cd K P ρ σ m s hA R h
  have hne : f σ ≠ .no := fun q => h (by unfold tNot; rw [q]; rfl)
  refine isTrue_not (wpAny_mono (ht hA R hne) (fun c s₁ ⟨K₁, ρ₁, σ₁, x₁, R₁, e₁, hs₁⟩ => ?_) fun _ _ x => x)
  unfold tNot
  rw [e₁]
  cases c with
  | true => exact ⟨K₁, ρ₁, σ₁, x₁, R₁, rfl, hs₁⟩
  | false => exact ⟨K₁, ρ₁, σ₁, x₁, R₁, rfl, hs₁⟩

theorem iCmp_inv {h : Int → Int → Bool} {x y : D} {σ : St} {c : Bool} (e : iCmp h x y σ = .ok c) : ∃ i j, x = .int i ∧ y = .int j ∧ c = h i j := by
  obtain ⟨i, rfl, e1⟩ := D.onI_inv e nofun
  obtain ⟨j, rfl, e2⟩ := D.onI_inv e1 nofun
  cases e2
  exact ⟨i, j, rfl, rfl, rfl⟩
theorem c_le : OkC G F n (compareOp .LtE) cLe := by
  intro A L K P ρ σ m s x y u v c hA R hx hy h
  obtain ⟨i, j, rfl, rfl, rfl⟩ := iCmp_inv h
  obtain ⟨t, rfl⟩ := hx.int
  obtain ⟨t', rfl⟩ := hy.int
  exact le_int ⟨by rw [zle_eq], R, .refl s⟩
theorem c_gt : OkC G F n (compareOp .Gt) cGt := by
  intro A L K P ρ σ m s x y u v c hA R hx hy h
  obtain ⟨i, j, rfl, rfl, rfl⟩ := iCmp_inv h
  obtain ⟨t, rfl⟩ := hx.int
  obtain ⟨t', rfl⟩ := hy.int
  exact gt_int ⟨by rw [zlt_eq], R, .refl s⟩
theorem c_isN : OkC G F n (compareOp .Is) cIsN := by
  intro A L K P ρ σ m s x y u v c hA R hx hy h
  obtain ⟨rfl, h1⟩ := D.onN_inv h nofun
  have := hy.none
  subst this
  refine is_none ⟨?_, R, .refl s⟩
  cases h1
  cases hx with
  | ref e => rfl
  | d hx => cases hx <;> rfl

/-- the ints of a list -/
theorem allI_inv {fa : Nat → Addr} {K : KM} : ∀ {xs : List D} {vs : List Value}, allI xs = true → DL fa K xs vs → ∃ ns : List Int, IntsAre vs ns ∧ xs = ns.map D.int
  | [], _, _, h => by cases h; exact ⟨[], .nil, rfl⟩
  | x :: r, _, e, h => by
    cases h with | cons p q =>
    have e' : (x.onI false fun _ => allI r) = true := e
    obtain ⟨i, rfl, e2⟩ := D.onI_inv e' nofun
    obtain ⟨ns, h1, h2⟩ := allI_inv e2 q
    cases p with | int _ t =>
    exact ⟨i :: ns, .cons i t h1, by rw [h2]; rfl⟩
theorem eqI_eq : ∀ ns ms : List Int, eqI (ns.map D.int) (ms.map D.int) = decide (ns = ms)
  | [], [] => rfl
  | [], _ :: _ => rfl
  | _ :: _, [] => rfl
  | n :: r, k :: q => by
    show onB (zeq n k) (eqI (r.map D.int) (q.map D.int)) false = _
    rw [eqI_eq r q, onB_eq, zeq_eq]
    by_cases h : n = k <;> simp [h]
theorem eqIs_inv {fa : Nat → Addr} {K : KM} {xs ys : List D} {vs us : List Value} {c : Bool} (e : eqIs xs ys = .ok c) (h : DL fa K xs vs) (h' : DL fa K ys us) :
    ∃ ns ms, IntsAre vs ns ∧ IntsAre us ms ∧ c = decide (ns = ms) := by
  obtain ⟨c1, e1⟩ := onB_inv e nofun
  obtain ⟨c2, e2⟩ := onB_inv e1 nofun
  cases e2
  obtain ⟨ns, h1, rfl⟩ := allI_inv c1 h
  obtain ⟨ms, h2, rfl⟩ := allI_inv c2 h'
  exact ⟨ns, ms, h1, h2, eqI_eq ns ms⟩
theorem units_ok {A : Around} (h : Room n A) {k : Nat} (hk : k ≤ 1000) : A.units + k < cLine := by
  have h1 : cLine = 9900 := rfl
  have := h.2.2
  omega
theorem beq_dec (i j : Int) : (i == j) = decide (i = j) := by
  by_cases h : i = j <;> simp [h]
theorem cEq_inv {P : KM} {L : Addr} {K : KM} {ρ : List Addr} {σ : St} {m : Str → Option Value} {s : Shared} {x y : D} {u v : Value} {c : Bool} (R : Rel G F.names P L K ρ σ m s) (hx : VR G.fa K ρ x u) (hy : VR G.fa K ρ y v) (h : cEq x y σ = .ok c) :
    (∃ i t j t', u = .int i t ∧ v = .int j t' ∧ c = decide (i = j)) ∨
    ∃ a b vs us ns ms, u = .ref a ∧ v = .ref b ∧ s.heap.IsList a vs.toArray ∧ s.heap.IsList b us.toArray ∧ IntsAre vs ns ∧ IntsAre us ms ∧ c = decide (ns = ms) := by
  unfold cEq at h
  rcases D.onI_cases x (cont σ x RO.no fun xs => cont σ y RO.no fun ys => eqIs xs ys) (fun x => y.onI RO.no fun y => RO.ok (zeq x y)) with ⟨i, rfl, e⟩ | ⟨_, e⟩
  · rw [e] at h
    obtain ⟨j, rfl, h1⟩ := D.onI_inv h nofun
    cases h1
    obtain ⟨t, rfl⟩ := hx.int
    obtain ⟨t', rfl⟩ := hy.int
    exact .inl ⟨i, t, j, t', rfl, rfl, zeq_eq i j⟩
  · rw [e] at h
    obtain ⟨xs, a, vs, q, h1, rfl, ha, hd, _⟩ := R.cont hx h nofun
    obtain ⟨ys, b, us, r, h2, rfl, hb, hd', _⟩ := R.cont hy h1 nofun
    obtain ⟨ns, ms, i1, i2, e2⟩ := eqIs_inv h2 hd hd'
    exact .inr ⟨a, b, vs, us, ns, ms, rfl, rfl, isList_of ha, isList_of hb, i1, i2, e2⟩
theorem c_eq : OkC G F n (compareOp .Eq) cEq := by
  intro A L K P ρ σ m s x y u v c hA R hx hy h
  rcases cEq_inv R hx hy h with ⟨i, t, j, t', rfl, rfl, rfl⟩ | ⟨a, b, vs, us, ns, ms, rfl, rfl, ha, hb, i1, i2, rfl⟩
  · exact eq_int ⟨by rw [beq_dec], R, .refl s⟩
  · exact W.eq_intsK ha i1 hb i2 (units_ok hA (by decide)) ⟨rfl, R, .refl s⟩
theorem c_ne : OkC G F n (compareOp .NotEq) cNe := by
  intro A L K P ρ σ m s x y u v c hA R hx hy h
  obtain ⟨c', h1, h2⟩ := RO.inv h nofun
  have e : c = !c' := by cases c' <;> cases h2 <;> rfl
  rcases cEq_inv R hx hy h1 with ⟨i, t, j, t', rfl, rfl, rfl⟩ | ⟨a, b, vs, us, ns, ms, rfl, rfl, ha, hb, i1, i2, rfl⟩
  · exact ne_int ⟨by rw [e, ← beq_dec]; rfl, R, .refl s⟩
  · exact W.ne_intsK ha i1 hb i2 (units_ok hA (by decide)) ⟨by rw [e], R, .refl s⟩
end
end Goo
end
-- GExpr4
section
open PySem PyProof.Rows
namespace Goo
section
variable {G : GE} {F : FC} {n : Nat}
theorem evalPart_of {P : KM} {L a : Addr} {cd : Value} {K : KM} {ρ : List Addr} {σ σ' : St} {m : Str → Option Value} {s : Shared} {d : D} {A : Around} {o : Option Expr} {f : EM}
    (ho : match o with | none => f = eN | some e => OkE G F n e f) (hA : Room n A) (R : Rel G F.names P L K ρ σ m s) (h : f σ = .ok d σ') :
    wpAny (model G.prog G.w) A (evalPart o (F.env L a cd)) (PE G F P L K ρ σ' m s d) NoE s := by
  cases o with
  | none =>
    subst ho
    cases h
    rw [evalPart_none]
    exact wpAny_pure (.of R (.d .none) (.refl s))
  | some e => rw [evalPart_some]; exact ho hA R h
theorem part_inv {α : Type} {fa : Nat → Addr} {K : KM} {ρ : List Addr} {d : D} {v : Value} {c df : Nat} {z t : α} {k : Nat → α} (hv : VR fa K ρ d v) (h : part d c df z k = t) (hz : z ≠ t) :
    ∃ o : Option Int, IsPart v o ∧ k (match o with | none => df | some i => clip c i) = t := by
  unfold part at h
  rcases D.onI_cases d (d.onN z (k df)) (fun i => k (clip c i)) with ⟨i, rfl, e⟩ | ⟨_, e⟩
  · rw [e] at h
    obtain ⟨t', rfl⟩ := hv.int
    exact ⟨some i, .int i t', h⟩
  · rw [e] at h
    obtain ⟨rfl, h1⟩ := D.onN_inv h hz
    have := hv.none
    subst this
    exact ⟨none, .none, h1⟩
theorem kms_clip_lo (o : Option Int) (c : Nat) : (match o with | none => 0 | some i => clip c i) = W.kms_lo o c := by
  cases o with
  | none => rfl
  | some i =>
    have := clip_eq c i
    simp only [W.kms_lo]
    split <;> omega
theorem kms_clip_hi (o : Option Int) (c : Nat) : (match o with | none => c | some i => clip c i) = W.kms_hi o c := by
  cases o with
  | none => rfl
  | some i =>
    have := clip_eq c i
    simp only [W.kms_hi]
    split <;> omega
theorem retL_inv {xs : List D} {σ σ' : St} {d : D} (h : retL xs σ = .ok d σ') : d = .list xs ∧ σ' = σ := by
  unfold retL at h
  rw [forceL_eq] at h
  cases h
  exact ⟨rfl, rfl⟩
theorem ok_slice {vl : Expr} {lower upper : Option Expr} {f lo hi : EM} {p pos : Pos} (hf : OkE G F n vl f) (hlo : match lower with | none => lo = eN | some e => OkE G F n e lo) (hhi : match upper with | none => hi = eN | some e => OkE G F n e hi)
    (ht : ∀ o r, letTemporaryGo vl o r = pure ()) : OkE G F n (.Subscript vl (.Slice lower upper none p) pos) (eSl f lo hi) := by
  intro A L a cd K P ρ σ m s d σ' hA R h
  obtain ⟨d₁, σ₁, h1, h2⟩ := RE.inv h nofun
  obtain ⟨d₂, σ₂, h3, h4⟩ := RE.inv h2 nofun
  obtain ⟨d₃, σ₃, h5, h6⟩ := RE.inv h4 nofun
  refine wpAny_Subscript_list_slice (wpAny_mono (hf hA R h1) (fun v s₁ ⟨K₁, ρ₁, x₁, R₁, hv₁, hs₁⟩ => wpAny_mono (evalPart_of hlo hA R₁ h3) (fun u s₂ ⟨K₂, ρ₂, x₂, R₂, hv₂, hs₂⟩ =>
    wpAny_mono (evalPart_of hhi hA R₂ h5) (fun w s₃ ⟨K₃, ρ₃, x₃, R₃, hv₃, hs₃⟩ => ?_) fun _ _ x => x) fun _ _ x => x) fun _ _ x => x) ht
  obtain ⟨xs, b, vs, q, h7, rfl, hb, hd, hl⟩ := R₃.cont (hv₁.ext (x₂.trans x₃)) h6 nofun
  obtain ⟨o₁, p₁, h8⟩ := part_inv (hv₂.ext x₃) h7 nofun
  obtain ⟨o₂, p₂, h9⟩ := part_inv hv₃ h8 nofun
  obtain ⟨rfl, rfl⟩ := retL_inv h9
  have hlen := hd.length
  refine ⟨b, vs.toArray, o₁, o₂, rfl, isList_of hb, ?_, p₁, p₂, PE.up (x₁.trans (x₂.trans x₃)) (hs₁.trans (hs₂.trans hs₃)) ?_⟩
  · rw [List.size_toArray, ← hlen]; exact size_lt hl
  · rw [len_eq, kms_clip_lo, kms_clip_hi, takeR_eq, dropR_eq, W.kms_pick_eq]
    have hd' : DL G.fa K₃ ((xs.drop (W.kms_lo o₁ xs.length)).take (W.kms_hi o₂ xs.length - W.kms_lo o₁ xs.length)) (W.kms_pick vs o₁ o₂) := by
      unfold W.kms_pick
      rw [hlen]
      exact (hd.drop _).take _
    refine PE.newK R₃ hd' ?_ (q := 0) (tk := s₃.toks) (Nat.le_succ _) ?_ fun b o e => keep_push _ _ _ _ (keep_push _ _ _ _ e)
    · rw [List.length_take, List.length_drop]; omega
    · rw [show s₃.heap.objs.size + 1 = (s₃.heap.push { cls := .type "slice", data := .fields #[u, w, Value.none] }).objs.size from (Heap.size_push _ _).symm, Heap.get?_push_size _ rfl]
theorem ok_rev {vl st : Expr} {f : EM} {p pos : Pos} (hf : OkE G F n vl f) (hst : OkE G F n st (eNeg (eI 1))) (ht : ∀ o r, letTemporaryGo vl o r = pure ()) :
    OkE G F n (.Subscript vl (.Slice none none (some st) p) pos) (eRev f) := by
  intro A L a cd K P ρ σ m s d σ' hA R h
  obtain ⟨d₁, σ₁, h1, h2⟩ := RE.inv h nofun
  have h3 : eNeg (eI 1) σ₁ = .ok (.int (-1)) σ₁ := rfl
  refine wpAny_Subscript_Slice_step (T := "list") list_getitem_lookup (wpAny_mono (hf hA R h1) (fun v s₁ ⟨K₁, ρ₁, x₁, R₁, hv₁, hs₁⟩ => wpAny_Slice ?_) fun _ _ x => x) ht
  rw [evalPart_none, evalPart_some]
  refine wpAny_pure (wpAny_pure (wpAny_mono (hst hA R₁ h3) (fun u s₂ ⟨K₂, ρ₂, x₂, R₂, hv₂, hs₂⟩ => ?_) fun _ _ x => x))
  obtain ⟨t, rfl⟩ := hv₂.int
  obtain ⟨xs, b, vs, q, h7, rfl, hb, hd, hl⟩ := R₁.cont hv₁ h2 nofun
  obtain ⟨ys, b', vs', q', h7', eb, hb', hd', hl'⟩ : ∃ ys b' vs' q', retL (revR ys) σ₁ = .ok d σ' ∧ Value.ref b = .ref b' ∧ s₂.heap.get? b' = some (lobj vs' q') ∧ DL G.fa K₂ ys vs' ∧ ys.length ≤ 1000 := by
    have R₂' := R₂
    exact R₂.cont (hv₁.ext x₂) h2 nofun
  cases eb
  obtain ⟨rfl, rfl⟩ := retL_inv h7'
  have hb₃ := Heap.get?_push_of_some { cls := .type "slice", data := .fields #[Value.none, Value.none, Value.int (-1) t] } hb'
  have hlen := hd'.length
  refine ⟨⟨_, hb₃, rfl⟩, wpAny_getItem_list_slice (isList_of hb₃) (Heap.IsSliceOf.new ..) .none .none (.int (-1) t) (by simp) ?_ ?_⟩
  · rw [W.krv_pick, revR_eq]
    refine PE.up (x₁.trans x₂) (hs₁.trans hs₂) (PE.newK R₂ hd'.reverse ?_ (q := 0) (tk := s₂.toks) ?_ ?_ fun b o e => keep_push _ _ _ _ (keep_push _ _ _ _ e))
    · rw [List.length_reverse]; exact hl'
    · rw [Heap.size_push]; exact Nat.le_succ _
    · rw [Heap.get?_push_size _ rfl]
  · rw [List.size_toArray, ← hlen]; exact size_lt hl'

theorem argsOne {P : KM} {L a : Addr} {cd : Value} {K : KM} {ρ : List Addr} {σ σ' : St} {m : Str → Option Value} {s : Shared} {d : D} {A : Around} {e : Expr} {f : EM} {pos : Pos} {Q : List Value → Shared → Prop}
    (hf : OkE G F n e f) (hA : Room n A) (R : Rel G F.names P L K ρ σ m s) (h : f σ = .ok d σ')
    (hQ : ∀ v s', PE G F P L K ρ σ' m s d v s' → Q [v] s') (he : starEach [e] (F.env L a cd) = (false, eval e (F.env L a cd)) :: starEach [] (F.env L a cd)) :
    wpAny (model G.prog G.w) A (spliced (backTo pos (starEach [e] (F.env L a cd)))) Q NoE s :=
  args_cons (wpAny_mono (hf hA R h) (fun v s' q => args_nil (hQ v s' q)) fun _ _ x => x) he
abbrev StarOk (es : List Expr) : Prop := ∀ env : Env, starEach es env = es.map fun e => (false, eval e env)

theorem ok_len (hF : F.Ok) (hG : GOk G) {e : Expr} {f : EM} {p pos : Pos} (hf : OkE G F n e f) (hl : F.scope.names.lookup ("len" : Str) = some .globalImplicit) (hs : StarOk [e]) :
    OkE G F n (.Call (.Name "len" p) [e] [] pos) (eLen f) := by
  intro A L a cd K P ρ σ m s d σ' hA R h
  obtain ⟨d₁, σ₁, h1, h2⟩ := RE.inv h nofun
  refine Call_ (name_bi hF hG R hl rfl (.head _) (callWith_builtin1 (argsOne hf hA R h1 (fun v s₁ ⟨K₁, ρ₁, x₁, R₁, hv₁, hs₁⟩ => ?_) (hs _)) (hs _)))
  obtain ⟨xs, b, vs, q, h3, rfl, hb, hd, hl'⟩ := R₁.cont hv₁ h2 nofun
  have hlen := hd.length
  refine Calls.call_len_list (isList_of hb) (by simp only [List.size_toArray]; omega) ?_
  rw [len_eq, hlen] at h3
  simp only [List.size_toArray]
  exact PE.up x₁ hs₁ (PE.intI R₁ h3)
theorem ok_tupOf (hF : F.Ok) (hG : GOk G) {e : Expr} {f : EM} {p pos : Pos} (hf : OkE G F n e f) (hl : F.scope.names.lookup ("tuple" : Str) = some .globalImplicit) (hs : StarOk [e]) :
    OkE G F n (.Call (.Name "tuple" p) [e] [] pos) (eTupOf f) := by
  intro A L a cd K P ρ σ m s d σ' hA R h
  obtain ⟨d₁, σ₁, h1, h2⟩ := RE.inv h nofun
  refine Call_ (name_bi hF hG R hl rfl (.tail _ (.tail _ (.tail _ (.tail _ (.head _))))) (PyProof.Rows.callWith_type1 (argsOne hf hA R h1 (fun v s₁ ⟨K₁, ρ₁, x₁, R₁, hv₁, hs₁⟩ => ?_) (hs _)) (hs _)))
  obtain ⟨xs, b, vs, q, h3, rfl, hb, hd, hl'⟩ := R₁.cont hv₁ h2 nofun
  have hlen := hd.length
  cases h3
  refine call_tuple_list (isList_of hb) (fun h' hk => ?_) (by rw [List.size_toArray, ← hlen]; exact size_lt hl')
  have R' := R₁.ext (tk := s₁.toks) hk
  exact PE.up x₁ (hs₁.trans (.of s₁ h' s₁.toks)) (PE.newT R' hd hl' (vs := vs) (q := 0) (tk := s₁.toks) (Nat.le_refl _) (Heap.get?_push_size h' rfl) (keep_push _ _))
end
end Goo
end
-- GExpr5
section
open PySem PyProof.Rows
namespace Goo
section
variable {G : GE} {F : FC} {n : Nat}
theorem ok_min (hF : F.Ok) (hG : GOk G) {e₁ e₂ : Expr} {f g : EM} {p pos : Pos} (hf : OkE G F n e₁ f) (hg : OkE G F n e₂ g) (hl : F.scope.names.lookup ("min" : Str) = some .globalImplicit)
    (hs : ∀ env, starEach [e₁, e₂] env = (false, eval e₁ env) :: starEach [e₂] env) (hs' : ∀ env, starEach [e₂] env = (false, eval e₂ env) :: starEach [] env) :
    OkE G F n (.Call (.Name "min" p) [e₁, e₂] [] pos) (eBin bMin f g) := by
  intro A L a cd K P ρ σ m s d σ' hA R h
  obtain ⟨d₁, σ₁, h1, h2⟩ := RE.inv h nofun
  obtain ⟨d₂, σ₂, h3, h4⟩ := RE.inv h2 nofun
  obtain ⟨i, j, rfl, rfl, h5⟩ := iBin_inv h4
  refine Call_ (name_bi hF hG R hl rfl (.tail _ (.tail _ (.tail _ (.head _)))) (callWith_builtin1 (args_cons (wpAny_mono (hf hA R h1) (fun v s₁ ⟨K₁, ρ₁, x₁, R₁, hv₁, hs₁⟩ =>
    args_cons (wpAny_mono (hg hA R₁ h3) (fun u s₂ ⟨K₂, ρ₂, x₂, R₂, hv₂, hs₂⟩ => args_nil ?_) fun _ _ x => x) (hs' _)) fun _ _ x => x) (hs _)) (hs _) (by rw [hs' _]; rfl)))
  obtain ⟨t, rfl⟩ := hv₁.int
  obtain ⟨t', rfl⟩ := hv₂.int
  refine min_two_ints hA.1 fun h' tk hk => PE.up (x₁.trans x₂) (hs₁.trans hs₂) ?_
  rw [zlt_eq, onB_eq] at h5
  simp only [decide_eq_true_eq] at h5
  unfold retI at h5
  rw [forceI_eq] at h5
  cases h5
  refine .of (R₂.ext hk) ?_ (.of s₂ h' tk)
  split
  · exact .d (.int _ _)
  · exact .d (.int _ _)
def plOf (e : Expr) (env : Env) : Sem Bool := do return (← importBound e env).getD true
theorem ok_bl {e : Expr} {f : EM} {p pos : Pos} (hf : OkE G F n e f)
    (he : ∀ env, eval (.Call (.Attribute e "bit_length" p) [] [] pos) env = (do
      let ov ← eval e env
      standAt p.atName
      let (f, first) ← holding [ov] (getMethod ov "bit_length" (plOf e env))
      callWith pos f first (backTo pos (starEach [] env)) [])) : OkE G F n (.Call (.Attribute e "bit_length" p) [] [] pos) (eBL f) := by
  intro A L a cd K P ρ σ m s d σ' hA R h
  obtain ⟨d₁, σ₁, h1, h2⟩ := RE.inv h nofun
  obtain ⟨i, rfl, h3⟩ := D.onI_inv h2 nofun
  obtain ⟨k, rfl, h4⟩ := onZ_inv h3 nofun
  obtain ⟨c, h5⟩ := onB_inv h4 nofun
  refine MethodCall_ (wpAny_mono (hf hA R h1) (fun v s₁ ⟨K₁, ρ₁, x₁, R₁, hv₁, hs₁⟩ => ?_) fun _ _ x => x) (he _)
  obtain ⟨t, rfl⟩ := hv₁.int
  with_reducible refine getMethod_int_bit_length ?_
  with_reducible refine callWith_method0 ?_
  with_reducible refine call_int_bit_length ?_
  refine PE.up x₁ hs₁ (PE.intI R₁ ?_)
  rw [show ((Builtin.Int.intBits (k : Int) : Nat) : Int) = Int.ofNat (onNat k 0 fun p => Nat.succ (Nat.log2 (Nat.succ p))) from ?_]
  · exact h5
  · cases k with
    | zero => rfl
    | succ k =>
      unfold Builtin.Int.intBits
      rw [if_neg (by simp; omega)]
      rfl

def PL (G : GE) (F : FC) (P : KM) (L : Addr) (K : KM) (ρ : List Addr) (σ' : St) (m : Str → Option Value) (s : Shared) (ds : List D) (vs : List Value) (s' : Shared) : Prop :=
  ∃ K' ρ', Ext K ρ K' ρ' ∧ Rel G F.names P L K' ρ' σ' m s' ∧ DL G.fa K' ds vs ∧ Same s s'
def OkL (G : GE) (F : FC) (n : Nat) (es : List Expr) (fs : List EM) : Prop :=
  ∀ {A : Around} {L a : Addr} {cd : Value} {K P : KM} {ρ : List Addr} {σ : St} {m : Str → Option Value} {s : Shared} {ds : List D} {σ' : St} {pos : Pos}, Room n A → Rel G F.names P L K ρ σ m s → eAll fs σ = .ok ds σ' →
    wpAny (model G.prog G.w) A (spliced (backTo pos (starEach es (F.env L a cd)))) (PL G F P L K ρ σ' m s ds) NoE s
theorem okL_nil : OkL G F n [] [] := by
  intro A L a cd K P ρ σ m s ds σ' pos hA R h
  cases h
  exact args_nil ⟨K, ρ, .refl .., R, .nil, .refl s⟩
theorem okL_cons {e : Expr} {es : List Expr} {f : EM} {fs : List EM} (hf : OkE G F n e f) (hr : OkL G F n es fs) (hs : ∀ env, starEach (e :: es) env = (false, eval e env) :: starEach es env) : OkL G F n (e :: es) (f :: fs) := by
  intro A L a cd K P ρ σ m s ds σ' pos hA R h
  have h0 : ((f σ).el .no fun a σ => (frz a σ).el .no fun d σ => (eAll fs σ).el .no fun ds σ => .ok (d :: ds) σ) = RL.ok ds σ' := h
  obtain ⟨d₁, σ₁, h1, h2⟩ := RE.inv h0 nofun
  obtain ⟨d₂, σ₂, h3, h4⟩ := RE.inv h2 nofun
  obtain ⟨ds', σ₃, h5, h6⟩ := RL.inv h4 nofun
  cases h6
  refine args_cons (wpAny_mono (hf hA R h1) (fun v s₁ ⟨K₁, ρ₁, x₁, R₁, hv₁, hs₁⟩ => ?_) fun _ _ x => x) (hs _)
  obtain ⟨K₂, x₂, R₂, hd⟩ := R₁.freeze hv₁ h3
  exact wpAny_mono (hr hA R₂ h5) (fun vs s₂ ⟨K₃, ρ₃, x₃, R₃, hd₃, hs₃⟩ => ⟨K₃, ρ₃, x₁.trans (x₂.trans x₃), R₃, .cons (hd.mono x₃.k) hd₃, hs₁.trans hs₃⟩) fun _ _ x => x
theorem eAll_len : ∀ {fs : List EM} {σ σ' : St} {ds : List D}, eAll fs σ = .ok ds σ' → ds.length = fs.length
  | [], _, _, _, h => by cases h; rfl
  | f :: fs, σ, σ', ds, h => by
    have h0 : ((f σ).el .no fun a σ => (frz a σ).el .no fun d σ => (eAll fs σ).el .no fun ds σ => .ok (d :: ds) σ) = RL.ok ds σ' := h
    obtain ⟨d₁, σ₁, h1, h2⟩ := RE.inv h0 nofun
    obtain ⟨d₂, σ₂, h3, h4⟩ := RE.inv h2 nofun
    obtain ⟨ds', σ₃, h5, h6⟩ := RL.inv h4 nofun
    cases h6
    exact congrArg Nat.succ (eAll_len h5)
theorem ok_list {es : List Expr} {fs : List EM} {pos : Pos} (h : OkL G F n es fs) : OkE G F n (.List es pos) (eList fs) := by
  intro A L a cd K P ρ σ m s d σ' hA R h'
  obtain ⟨ds, σ₁, h1, h2⟩ := RL.inv h' nofun
  refine wpAny_List (wpAny_mono (h hA R h1) (fun vs s₁ ⟨K₁, ρ₁, x₁, R₁, hd, hs₁⟩ => ?_) fun _ _ x => x)
  have hl := hd.length
  exact ⟨by rw [← hl]; exact size_lt (newL_inv h2).1, PE.up x₁ hs₁ (PE.newL R₁ hd h2 (tk := s₁.toks) (q := 0) (Nat.le_refl _) (Heap.get?_push_size _ rfl) (keep_push _ _))⟩
theorem ok_tup {es : List Expr} {fs : List EM} {k : Nat} {pos : Pos} (h : OkL G F n es fs) (hl : fs.length ≤ 1000) : OkE G F n (.Tuple es k pos) (eTup fs) := by
  intro A L a cd K P ρ σ m s d σ' hA R h'
  obtain ⟨ds, σ₁, h1, h2⟩ := RL.inv h' nofun
  cases h2
  refine wpAny_Tuple (wpAny_mono (h hA R h1) (fun vs s₁ ⟨K₁, ρ₁, x₁, R₁, hd, hs₁⟩ => ?_) fun _ _ x => x)
  have hl' := hd.length
  have hl2 : ds.length ≤ 1000 := by rw [eAll_len h1]; exact hl
  exact ⟨by rw [← hl']; exact size_lt hl2, PE.up x₁ hs₁ (PE.newT R₁ hd hl2 (tk := s₁.toks) (q := 0) (Nat.le_refl _) (Heap.get?_push_size _ rfl) (keep_push _ _))⟩

structure CallOk (G : GE) (n : Nat) (b : Addr) (c : CF) : Prop where
  fn : ∃ o fd, G.hb.get? b = some o ∧ o.data = .func fd
  run : ∀ {A : Around} {K P : KM} {s : Shared} {vs : List Value} {ds : List D} {d : D}, Room n A → Hp G K P s.heap → DL G.fa K ds vs → c ds = .ok d →
    wpAny (model G.prog G.w) A (call (.ref b) vs) (fun v s' => ∃ K', K.le K' ∧ Hp G K' P s'.heap ∧ DR G.fa K' d v ∧ Same s s') NoE s
structure RefOk (G : GE) (n : Nat) (b : Addr) (c : RF) : Prop where
  fn : ∃ o fd, G.hb.get? b = some o ∧ o.data = .func fd
  run : ∀ {A : Around} {K P : KM} {s : Shared} {l : Addr} {xs : List D} {us : List Value} {q : Nat} {vs : List Value} {ds ys : List D} {d : D}, Room n A → Hp G K P s.heap →
    s.heap.get? l = some (lobj us q) → DL G.fa K xs us → xs.length ≤ 1000 → K l = none → P l = none → DL G.fa K ds vs → c xs ds = .ok (d, ys) →
    wpAny (model G.prog G.w) A (call (.ref b) (.ref l :: vs)) (fun v s' => ∃ K' ws q', K.le K' ∧ Hp G K' P s'.heap ∧ s'.heap.get? l = some (lobj ws q') ∧ DL G.fa K' ys ws ∧ ys.length ≤ 1000 ∧ K' l = none ∧ DR G.fa K' d v ∧ Same s s') NoE s
theorem CallOk.mono {G : GE} {n k : Nat} {b : Addr} {c : CF} (h : CallOk G n b c) (hk : n ≤ k) : CallOk G k b c := ⟨h.fn, fun hA => h.run (hA.mono hk)⟩
theorem RefOk.mono {G : GE} {n k : Nat} {b : Addr} {c : RF} (h : RefOk G n b c) (hk : n ≤ k) : RefOk G k b c := ⟨h.fn, fun hA => h.run (hA.mono hk)⟩

/-- all that stands and is not frozen -/
def rest (K : KM) (h : Heap) (l : Addr → Prop) [DecidablePred l] : KM := fun b => if K b = none ∧ ¬ l b then h.get? b else none
theorem rest_inv {K : KM} {h : Heap} {l : Addr → Prop} [DecidablePred l] {b : Addr} {o : Obj} (e : rest K h l b = some o) : K b = none ∧ ¬ l b ∧ h.get? b = some o := by
  unfold rest at e
  split at e
  · rename_i q; exact ⟨q.1, q.2, e⟩
  · cases e
theorem rest_of {K : KM} {h : Heap} {l : Addr → Prop} [DecidablePred l] {b : Addr} {o : Obj} (e : h.get? b = some o) (k : K b = none) (q : ¬ l b) : rest K h l b = some o := (if_pos ⟨k, q⟩).trans e
theorem Hp.rest {K P : KM} {h : Heap} (x : Hp G K P h) {l : Addr → Prop} [DecidablePred l] (hl : ∀ b, l b → P b = none) : Hp G K (rest K h l) h := by
  refine ⟨fun b o e => ?_, x.keepK, fun b o e => (rest_inv e).2.2, fun b o e => ?_⟩
  · cases q : K b with
    | some o' => left; rw [← x.keepK b o' q]; exact x.stays b o e
    | none =>
      right
      refine rest_of (x.stays b o e) q fun z => ?_
      rcases x.base b o e with y | y
      · rw [q] at y; cases y
      · rw [hl b z] at y; cases y
  · exact if_neg fun q => by rw [e] at q; cases q.1
/-- what a call leaves -/
theorem Hp.back {K K' P : KM} {h h' : Heap} (x : Hp G K P h) {l : Addr → Prop} [DecidablePred l] (hl : ∀ b, l b → P b = none) (le : K.le K') (y : Hp G K' (Goo.rest K h l) h') : Hp G K' P h' ∧
    (∀ b ob, h.get? b = some ob → K b = none → ¬ l b → K' b = none) ∧ ∀ b o, ¬ l b → h.get? b = some o → h'.get? b = some o := by
  have up : ∀ b o, P b = some o → Goo.rest K h l b = some o := fun b o e => by
    have hK : K b = none := by
      cases q : K b with
      | none => rfl
      | some o' => have := x.disj b o' q; rw [e] at this; cases this
    exact rest_of (x.keepP b o e) hK fun z => by rw [hl b z] at e; cases e
  have dj : ∀ b o, Goo.rest K h l b = some o → K' b = none := fun b o e => by
    cases q : K' b with
    | none => rfl
    | some o' => have := y.disj b o' q; rw [e] at this; cases this
  refine ⟨⟨fun b o e => (x.base b o e).imp (le b o) id, y.keepK, fun b o e => y.keepP b o (up b o e), fun b o e => ?_⟩, fun b ob e q z => dj b ob (rest_of e q z), fun b o z e => ?_⟩
  · cases q : P b with
    | none => rfl
    | some o' => have := dj b o' (up b o' q); rw [e] at this; cases this
  · cases q : K b with
    | none => exact y.keepP b o (rest_of e q z)
    | some o' =>
      have := x.keepK b o' q
      rw [e] at this; cases this
      exact y.keepK b o (le b o q)

theorem call_run {A : Around} {L : Addr} {K P : KM} {ρ : List Addr} {σ : St} {m : Str → Option Value} {s : Shared} {vs : List Value} {ds : List D} {d : D} {b : Addr} {c : CF} (hA : Room n A) (R : Rel G F.names P L K ρ σ m s)
    (hc : CallOk G n b c) (hd : DL G.fa K ds vs) (h : c ds = .ok d) : wpAny (model G.prog G.w) A (call (.ref b) vs) (PE G F P L K ρ σ m s d) NoE s := by
  haveI : DecidablePred fun _ : Addr => False := fun _ => .isFalse id
  refine wpAny_mono (hc.run hA (R.hp.rest (l := fun _ => False) nofun) hd h) (fun v s' ⟨K', le, hp, hv, hs⟩ => ?_) fun _ _ x => x
  obtain ⟨h1, h2, h3⟩ := R.hp.back nofun le hp
  obtain ⟨h', tk, rfl⟩ := hs
  exact ⟨K', ρ, ⟨le, List.prefix_rfl⟩, R.grow le h1 (fun b ob e q => h2 b ob e q id) fun b o e => h3 b o id e, .d hv, .of ..⟩

theorem ok_call (hF : F.Ok) (hG : GOk G) {y : Str} {e : Expr} {es : List Expr} {fs : List EM} {c : CF} {b : Addr} {p pos : Pos} (hL : OkL G F n (e :: es) fs) (hc : CallOk G n b c)
    (hl : F.scope.names.lookup y = some .globalImplicit) (hd : (y == ("__debug__" : Str)) = false) (hm : G.mg y = some (.ref b)) (hs : ∀ env, starEach (e :: es) env = (false, eval e env) :: starEach es env) :
    OkE G F n (.Call (.Name y p) (e :: es) [] pos) (eCall c fs) := by
  intro A L a cd K P ρ σ m s d σ' hA R h
  obtain ⟨ds, σ₁, h1, h2⟩ := RL.inv h nofun
  obtain ⟨d', h3, h4⟩ := RO.inv h2 nofun
  cases h4
  obtain ⟨o, fd, ho, hfd⟩ := hc.fn
  refine Call_ (name_glob hF hG R hl hd hm (callWith_def_at ho hfd (wpAny_mono (hL hA R h1) (fun vs s₁ ⟨K₁, ρ₁, x₁, R₁, hd₁, hs₁⟩ => ?_) fun _ _ x => x) (hs _)))
  exact ⟨R₁.hp.stays _ _ ho, wpAny_mono (call_run hA R₁ hc hd₁ h3) (fun v s₂ q => PE.up x₁ hs₁ q) fun _ _ x => x⟩
theorem ok_callV (hF : F.Ok) {x : Lens} {i : Nat} {y : Str} {e : Expr} {es : List Expr} {fs : List EM} {c0 c1 : CF} {p pos : Pos} (hx : x.At i) (hy : F.names[i]? = some y) (hL : OkL G F n (e :: es) fs)
    (hc0 : CallOk G n (G.fa 0) c0) (hc1 : CallOk G n (G.fa 1) c1) (hs : ∀ env, starEach (e :: es) env = (false, eval e env) :: starEach es env) :
    OkE G F n (.Call (.Name y p) (e :: es) [] pos) (eCallV x c0 c1 fs) := by
  intro A L a cd K P ρ σ m s d σ' hA R h
  obtain ⟨k, hk, h0⟩ := D.onF_inv h nofun
  rw [hx.get] at hk
  obtain ⟨v, e1, e2⟩ := R.vars i y hy (by rw [hk]; exact nofun)
  rw [hk] at e2
  have := e2.fn
  subst this
  obtain ⟨l1, l2⟩ := hF.loc y (List.mem_of_getElem? hy)
  refine Call_ (wpAny_Name (wpAny_loadName_local (env := F.env L a cd) hF.kind l1 R.ns e1 ?_) l2)
  have key : ∀ {c : CF}, CallOk G n (G.fa k) c → eCall c fs σ = .ok d σ' → wpAny (model G.prog G.w) A (callWith pos (.ref (G.fa k)) [] (backTo pos (starEach (e :: es) (F.env L a cd))) []) (PE G F P L K ρ σ' m s d) NoE s := by
    intro c hc hq
    obtain ⟨ds, σ₁, h1, h2⟩ := RL.inv hq nofun
    obtain ⟨d', h3, h4⟩ := RO.inv h2 nofun
    cases h4
    obtain ⟨o, fd, ho, hfd⟩ := hc.fn
    refine callWith_def_at ho hfd (wpAny_mono (hL hA R h1) (fun vs s₁ ⟨K₁, ρ₁, x₁, R₁, hd₁, hs₁⟩ => ?_) fun _ _ x => x) (hs _)
    exact ⟨R₁.hp.stays _ _ ho, wpAny_mono (call_run hA R₁ hc hd₁ h3) (fun v s₂ q => PE.up x₁ hs₁ q) fun _ _ x => x⟩
  match k with
  | 0 => exact key hc0 h0
  | 1 => exact key hc1 h0
  | _ + 2 => cases h0

theorem Rel.back {L : Addr} {K K' P : KM} {ρ : List Addr} {σ : St} {m : Str → Option Value} {s : Shared} (R : Rel G F.names P L K ρ σ m s) {i : Nat} {l : Addr} {xs ys : List D} {ws : List Value} {q : Nat} {h' : Heap} {tk : Nat}
    (e : σ.objs[i]? = some (.ow xs)) (r : ρ[i]? = some l) (le : K.le K') (hp : Hp G K' P h') (hn : ∀ b ob, s.heap.get? b = some ob → K b = none → b ≠ l → K' b = none) (k : ∀ b o, b ≠ l → s.heap.get? b = some o → h'.get? b = some o)
    (ho : h'.get? l = some (lobj ws q)) (hd : DL G.fa K' ys ws) (hl : ys.length ≤ 1000) (hk : K' l = none) : Rel G F.names P L K' ρ (σ.setO (σ.objs.set i (.ow ys))) m { s with heap := h', toks := tk } := by
  have X := R.objs i _ l e r
  obtain ⟨xk, xp, xl⟩ := X.ow xs rfl
  obtain ⟨oL, _, _, hL, _⟩ := id R.ns
  refine ⟨hp, R.ns.at' fun o z => k L o (Ne.symm xl) z, hn L oL hL R.lk (Ne.symm xl), R.lp, fun j x z w => ?_, ?_, fun j o b z w => ?_, R.inj⟩
  · rw [get_setO] at w ⊢
    obtain ⟨v, e1, e2⟩ := R.vars j x z w
    exact ⟨v, e1, e2.mono le List.prefix_rfl⟩
  · rw [objs_setO, List.length_set]; exact R.len
  · rw [objs_setO] at z
    by_cases hj : j = i
    · subst hj
      rw [List.getElem?_set_self (List.getElem?_eq_some_iff.mp e).1] at z
      cases z
      rw [r] at w; cases w
      exact ⟨hl, ⟨ws, q, ho, hd⟩, nofun, fun _ _ => ⟨hk, xp, xl⟩⟩
    · rw [List.getElem?_set_ne (Ne.symm hj)] at z
      have hb : b ≠ l := fun y => by subst y; exact hj (R.inj j i b w r)
      obtain ⟨x1, ⟨us, k', x2, x3⟩, x4, x5⟩ := R.objs j o b z w
      refine ⟨x1, ⟨us, k', k b _ hb x2, x3.mono le⟩, fun xs y ob w' => ?_, fun xs y => ⟨hn b _ x2 (x5 xs y).1 hb, (x5 xs y).2⟩⟩
      have := x4 xs y _ x2
      rw [k b _ hb x2] at w'
      cases w'
      exact le _ _ this
theorem ok_callR (hF : F.Ok) (hG : GOk G) {x : Lens} {i : Nat} {z y : Str} {es : List Expr} {fs : List EM} {c : RF} {b : Addr} {p p' pos : Pos} (hx : x.At i) (hz : F.names[i]? = some z) (hL : OkL G F n es fs) (hc : RefOk G n b c)
    (hl : F.scope.names.lookup y = some .globalImplicit) (hd : (y == ("__debug__" : Str)) = false) (hm : G.mg y = some (.ref b)) (hs : ∀ env, starEach (.Name z p' :: es) env = (false, eval (.Name z p') env) :: starEach es env) :
    OkE G F n (.Call (.Name y p) (.Name z p' :: es) [] pos) (eCallR c x fs) := by
  intro A L a cd K P ρ σ m s d σ' hA R h
  obtain ⟨k, hk, h0⟩ := D.onR_inv h nofun
  obtain ⟨ds, σ₁, h1, h2⟩ := RL.inv h0 nofun
  obtain ⟨ob, h3, h4⟩ := nthK_inv h2 nofun
  obtain ⟨xs, rfl, h5⟩ := Ob.onO_inv h4 nofun
  obtain ⟨⟨d', ys⟩, h6, h7⟩ := RO.inv h5 nofun
  rw [putL_eq] at h7
  cases h7
  rw [hx.get] at hk
  obtain ⟨v, e1, e2⟩ := R.vars i z hz (by rw [hk]; exact nofun)
  rw [hk] at e2
  obtain ⟨l, r, rfl⟩ := e2.refI
  obtain ⟨l1, l2⟩ := hF.loc z (List.mem_of_getElem? hz)
  obtain ⟨o, fd, ho, hfd⟩ := hc.fn
  refine Call_ (name_glob hF hG R hl hd hm (callWith_def_at ho hfd (args_cons (wpAny_Name (wpAny_loadName_local (env := F.env L a cd) hF.kind l1 R.ns e1 (wpAny_mono (hL hA R h1) (fun vs s₁ ⟨K₁, ρ₁, x₁, R₁, hd₁, hs₁⟩ => ?_) fun _ _ x => x)) l2) (hs _)) (hs _)))
  refine ⟨R₁.hp.stays _ _ ho, ?_⟩
  have r₁ : ρ₁[k]? = some l := by
    obtain ⟨t, e⟩ := x₁.r
    rw [← e, List.getElem?_append_left (List.getElem?_eq_some_iff.mp r).1]
    exact r
  have X := R₁.objs k _ l h3 r₁
  obtain ⟨us, q, hu, hxs⟩ := X.at'
  obtain ⟨xk, xp, xl⟩ := X.ow xs rfl
  have hlp : ∀ b, b = l → P b = none := fun b e => e ▸ xp
  refine wpAny_mono (hc.run hA (R₁.hp.rest (l := fun b => b = l) hlp) hu hxs X.size xk (if_neg fun w => w.2 rfl) hd₁ h6) (fun v s' ⟨K', ws, q', le, hp, hw, hys, hyl, hkl, hv, hs'⟩ => ?_) fun _ _ x => x
  obtain ⟨g1, g2, g3⟩ := R₁.hp.back hlp le hp
  obtain ⟨h', tk, rfl⟩ := hs'
  exact PE.up x₁ hs₁ ⟨K', ρ₁, ⟨le, List.prefix_rfl⟩, R₁.back h3 r₁ le g1 g2 g3 hw hys hyl hkl, .d hv, .of ..⟩
end
end Goo
end
-- GStmt
section
open PySem PyProof.Rows
namespace Goo
def PS (G : GE) (F : FC) (P : KM) (L : Addr) (K : KM) (ρ : List Addr) (s : Shared) (r : RS) (f : Flow) (s' : Shared) : Prop :=
  ∃ K' ρ' m' σ', Ext K ρ K' ρ' ∧ Rel G F.names P L K' ρ' σ' m' s' ∧ Same s s' ∧ ((r = .nx σ' ∧ f = .next) ∨ (r = .bk σ' ∧ f = .brk) ∨ ∃ d v, r = .rt d σ' ∧ f = .ret v ∧ DR G.fa K' d v)
def OkS (G : GE) (F : FC) (n : Nat) (st : Stmt) (b : SM) : Prop :=
  ∀ {A : Around} {L a : Addr} {cd : Value} {K P : KM} {ρ : List Addr} {σ : St} {m : Str → Option Value} {s : Shared}, Room n A → Rel G F.names P L K ρ σ m s → b σ ≠ .no →
    wpAny (model G.prog G.w) A (exec st (F.env L a cd)) (PS G F P L K ρ s (b σ)) NoE s
def OkB (G : GE) (F : FC) (n : Nat) (ss : List Stmt) (b : SM) : Prop :=
  ∀ {A : Around} {L a : Addr} {cd : Value} {K P : KM} {ρ : List Addr} {σ : St} {m : Str → Option Value} {s : Shared}, Room n A → Rel G F.names P L K ρ σ m s → b σ ≠ .no →
    wpAny (model G.prog G.w) A (execs ss (F.env L a cd)) (PS G F P L K ρ s (b σ)) NoE s
section
variable {G : GE} {F : FC} {n : Nat}
theorem PS.up {P : KM} {L : Addr} {K K' : KM} {ρ ρ' : List Addr} {s s' s'' : Shared} {r : RS} {f : Flow} (x : Ext K ρ K' ρ') (hs : Same s s') (h : PS G F P L K' ρ' s' r f s'') : PS G F P L K ρ s r f s'' := by
  obtain ⟨K₂, ρ₂, m₂, σ₂, e, R, z, q⟩ := h
  exact ⟨K₂, ρ₂, m₂, σ₂, x.trans e, R, hs.trans z, q⟩
theorem PS.nx {P : KM} {L : Addr} {K K' : KM} {ρ ρ' : List Addr} {s s' : Shared} {σ' : St} {m' : Str → Option Value} (x : Ext K ρ K' ρ') (R : Rel G F.names P L K' ρ' σ' m' s') (hs : Same s s') : PS G F P L K ρ s (.nx σ') .next s' :=
  ⟨K', ρ', m', σ', x, R, hs, .inl ⟨rfl, rfl⟩⟩
theorem okB_nil : OkB G F n [] sNop := fun _ R _ => wpAny_execs_nil (.nx (.refl ..) R (.refl _))
theorem RS.nxt_ne {r : RS} {b : SM} (h : r.nxt b ≠ .no) : r ≠ .no := fun q => h (by rw [q]; rfl)
theorem okB_cons {st : Stmt} {ss : List Stmt} {a b : SM} (h1 : OkS G F n st a) (h2 : OkB G F n ss b) : OkB G F n (st :: ss) (sSeq a b) := by
  intro A L c cd K P ρ σ m s hA R h
  refine wpAny_execs_cons (wpAny_mono (h1 hA R (RS.nxt_ne h)) (fun f s₁ ⟨K₁, ρ₁, m₁, σ₁, x₁, R₁, hs₁, q⟩ => ?_) fun _ _ x => x)
  unfold sSeq at h ⊢
  rcases q with ⟨e, rfl⟩ | ⟨e, rfl⟩ | ⟨d, v, e, rfl, hd⟩ <;> rw [e] at h ⊢
  · exact wpAny_mono (h2 hA R₁ h) (fun f s₂ q => PS.up x₁ hs₁ q) fun _ _ x => x
  · exact ⟨K₁, ρ₁, m₁, σ₁, x₁, R₁, hs₁, .inr (.inl ⟨rfl, rfl⟩)⟩
  · exact ⟨K₁, ρ₁, m₁, σ₁, x₁, R₁, hs₁, .inr (.inr ⟨d, v, rfl, rfl, hd⟩)⟩

theorem el_ne {r : RE} {k : D → St → RS} (h : r.el RS.no k ≠ .no) : ∃ d σ, r = .ok d σ ∧ k d σ ≠ .no := by
  cases r with
  | no => exact absurd rfl h
  | ok d σ => exact ⟨d, σ, rfl, h⟩
theorem frame_hp (hF : F.Ok) (L a : Addr) (cd : Value) : ((F.env L a cd).scope.kind == .class || ((F.env L a cd).scope.kind == .module && (F.env L a cd).locals != (F.env L a cd).globals)) = false := by
  show (F.scope.kind == .class || (F.scope.kind == .module && _)) = false
  rw [hF.kind]; rfl
theorem store_one (hF : F.Ok) {A : Around} {L a : Addr} {cd : Value} {K P : KM} {ρ : List Addr} {σ : St} {m : Str → Option Value} {s : Shared} {x : Lens} {i : Nat} {y : Str} {d : D} {v : Value} (hx : x.At i) (hy : F.names[i]? = some y)
    (R : Rel G F.names P L K ρ σ m s) (hv : VR G.fa K ρ d v) : wpAny (model G.prog G.w) A (storeName (F.env L a cd) y v) (fun _ s' => ∃ m', Rel G F.names P L K ρ (x.s d σ) m' s' ∧ Same s s') NoE s :=
  wpAny_storeName_local (env := F.env L a cd) (hF.loc y (List.mem_of_getElem? hy)).1 R.ns (fun h' hn hs => ⟨_, R.store hx hy hF.nd hv hn hs, .of ..⟩) (frame_hp hF L a cd)

theorem ok_set (hF : F.Ok) {x : Lens} {i : Nat} {y : Str} {e : Expr} {f : EM} {p pos : Pos} (hx : x.At i) (hy : F.names[i]? = some y) (hf : OkE G F n e f) (hs : ∀ L a cd, swapsWith e (some (.Name y p)) pos.line (F.env L a cd) = pure false) :
    OkS G F n (.Assign [.Name y p] e pos) (sSet x f) := by
  intro A L a cd K P ρ σ m s hA R h
  obtain ⟨d, σ₁, h1, _⟩ := el_ne h
  unfold sSet
  rw [h1]
  exact wpAny_Assign_Name (wpAny_mono (hf hA R h1) (fun v s₁ ⟨K₁, ρ₁, x₁, R₁, hv₁, hs₁⟩ => wpAny_mono (store_one hF hx hy R₁ hv₁) (fun _ s₂ ⟨m', R₂, hs₂⟩ => .nx x₁ R₂ (hs₁.trans hs₂)) fun _ _ x => x) fun _ _ x => x) (hs L a cd)
theorem ok_aug (hF : F.Ok) {x : Lens} {i : Nat} {y : Str} {op : Operator} {e : Expr} {f : EM} {b : BM} {p pos : Pos} (hx : x.At i) (hy : F.names[i]? = some y) (hf : OkE G F n e f) (hb : OkOp G F n (inplaceOp op) b) :
    OkS G F n (.AugAssign (.Name y p) op e pos) (sAug x b f) := by
  intro A L a cd K P ρ σ m s hA R h
  obtain ⟨d₁, σ₁, h1, h2⟩ := el_ne h
  obtain ⟨d₂, σ₂, h3, h4⟩ := el_ne h2
  obtain ⟨d₃, σ₃, h5, _⟩ := el_ne h4
  have e0 : sAug x b f σ = .nx (x.s d₃ σ₃) := by
    show (eV x σ).el RS.no _ = _
    rw [h1]
    show (f σ₁).el RS.no _ = _
    rw [h3]
    show (b d₁ d₂ σ₂).el RS.no _ = _
    rw [h5]; rfl
  rw [e0]
  obtain ⟨rfl, rfl, hu⟩ := eV_inv h1
  rw [hx.get] at hu h5
  obtain ⟨v, e1, e2⟩ := R.vars i y hy hu
  obtain ⟨l1, l2⟩ := hF.loc y (List.mem_of_getElem? hy)
  exact wpAny_AugAssign_Name (wpAny_loadName_local (env := F.env L a cd) hF.kind l1 R.ns e1 (wpAny_mono (hf hA R h3) (fun u s₁ ⟨K₁, ρ₁, x₁, R₁, hv₁, hs₁⟩ =>
    wpAny_mono (hb hA R₁ (e2.ext x₁) hv₁ h5) (fun w s₂ ⟨K₂, ρ₂, x₂, R₂, hv₂, hs₂⟩ => wpAny_mono (store_one hF hx hy R₂ hv₂) (fun _ s₃ ⟨m', R₃, hs₃⟩ => .nx (x₁.trans x₂) R₃ ((hs₁.trans hs₂).trans hs₃)) fun _ _ x => x) fun _ _ x => x) fun _ _ x => x))

inductive Tg (F : FC) : List Expr → List Lens → Prop
  | nil : Tg F [] []
  | cons {x : Lens} {i : Nat} {y : Str} {p : Pos} {es : List Expr} {xs : List Lens} : x.At i → F.names[i]? = some y → Tg F es xs → Tg F (.Name y p :: es) (x :: xs)
inductive TgN (F : FC) : List Str → List Lens → Prop
  | nil : TgN F [] []
  | cons {x : Lens} {i : Nat} {y : Str} {es : List Str} {xs : List Lens} : x.At i → F.names[i]? = some y → TgN F es xs → TgN F (y :: es) (x :: xs)
inductive VL (fa : Nat → Addr) (K : KM) (ρ : List Addr) : List D → List Value → Prop
  | nil : VL fa K ρ [] []
  | cons {d : D} {v : Value} {ds : List D} {vs : List Value} : VR fa K ρ d v → VL fa K ρ ds vs → VL fa K ρ (d :: ds) (v :: vs)
theorem VL.ext {fa : Nat → Addr} {K K' : KM} {ρ ρ' : List Addr} (x : Ext K ρ K' ρ') {ds : List D} {vs : List Value} (h : VL fa K ρ ds vs) : VL fa K' ρ' ds vs := by
  induction h with
  | nil => exact .nil
  | cons p _ ih => exact .cons (p.ext x) ih
theorem VL.length {fa : Nat → Addr} {K : KM} {ρ : List Addr} {ds : List D} {vs : List Value} (h : VL fa K ρ ds vs) : ds.length = vs.length := by
  induction h with
  | nil => rfl
  | cons _ _ ih => exact congrArg Nat.succ ih
theorem VL.of {fa : Nat → Addr} {K : KM} {ρ : List Addr} {ds : List D} {vs : List Value} (h : DL fa K ds vs) : VL fa K ρ ds vs := by
  induction ds generalizing vs with
  | nil => cases h; exact .nil
  | cons d r ih => cases h with | cons p q => exact .cons (.d p) (ih q)
theorem VL.append {fa : Nat → Addr} {K : KM} {ρ : List Addr} {ds es : List D} {vs us : List Value} (h : VL fa K ρ ds vs) (g : VL fa K ρ es us) : VL fa K ρ (ds ++ es) (vs ++ us) := by
  induction h with
  | nil => exact g
  | cons p _ ih => exact .cons p ih
theorem VL.reverse {fa : Nat → Addr} {K : KM} {ρ : List Addr} {ds : List D} {vs : List Value} (h : VL fa K ρ ds vs) : VL fa K ρ ds.reverse vs.reverse := by
  induction h with
  | nil => exact .nil
  | cons p _ ih => rw [List.reverse_cons, List.reverse_cons]; exact ih.append (.cons p .nil)
theorem Tg.length {es : List Expr} {xs : List Lens} (h : Tg F es xs) (env : Env) : (assignEach es env).length = xs.length ∧ (assignEach es env).findIdx? (·.1) = none := by
  induction h with
  | nil => exact ⟨rfl, rfl⟩
  | @cons x i y p es xs _ _ _ ih =>
    have e : assignEach (.Name y p :: es) env = (false, assign (.Name y p) env) :: assignEach es env := rfl
    rw [e, List.length_cons, List.length_cons, ih.1, List.findIdx?_cons, ih.2]
    exact ⟨rfl, rfl⟩
theorem setVs_cons {x : Lens} {xs : List Lens} {d : D} {ds : List D} {σ : St} : setVs (x :: xs) (d :: ds) σ = setVs xs ds (x.s d σ) := rfl
theorem tg_assign (hF : F.Ok) {A : Around} {L a : Addr} {cd : Value} {K P : KM} {ρ : List Addr} {es : List Expr} {xs : List Lens} (h : Tg F es xs) : ∀ {σ σ' : St} {m : Str → Option Value} {s : Shared} {ds : List D} {vs : List Value},
    Rel G F.names P L K ρ σ m s → VL G.fa K ρ ds vs → setVs xs ds σ = .nx σ' →
    wpAny (model G.prog G.w) A (assignInOrder ((assignEach es (F.env L a cd)).map (·.2)) vs) (fun _ s' => ∃ m', Rel G F.names P L K ρ σ' m' s' ∧ Same s s') NoE s := by
  induction h with
  | nil =>
    intro σ σ' m s ds vs R hv e
    cases hv with
    | nil => cases e; exact wpAny_pure ⟨m, R, .refl s⟩
    | cons _ _ => cases e
  | @cons x i y p es xs hx hy _ ih =>
    intro σ σ' m s ds vs R hv e
    cases hv with
    | nil => cases e
    | @cons d v ds vs p1 p2 =>
      show wpAny _ A (do holding vs (assign (.Name y p) (F.env L a cd) v); assignInOrder ((assignEach es (F.env L a cd)).map (·.2)) vs) _ _ s
      refine wpAny_bind (wpAny_holding (wpAny_assign_Name (wpAny_mono (store_one hF hx hy R p1) (fun _ s₁ ⟨m', R₁, hs₁⟩ => ?_) fun _ _ x => x)))
      exact wpAny_mono (ih R₁ p2 e) (fun _ s₂ ⟨m₂, R₂, hs₂⟩ => ⟨m₂, R₂, hs₁.trans hs₂⟩) fun _ _ x => x
theorem tg_bind (hF : F.Ok) {A : Around} {L a : Addr} {cd : Value} {K P : KM} {ρ : List Addr} {ys : List Str} {xs : List Lens} (h : TgN F ys xs) : ∀ {σ σ' : St} {m : Str → Option Value} {s : Shared} {ds : List D} {vs : List Value},
    Rel G F.names P L K ρ σ m s → VL G.fa K ρ ds vs → setVs xs ds σ = .nx σ' →
    wpAny (model G.prog G.w) A (assignInOrder (ys.map fun y => bindName (F.env L a cd) y) vs) (fun _ s' => ∃ m', Rel G F.names P L K ρ σ' m' s' ∧ Same s s') NoE s := by
  induction h with
  | nil =>
    intro σ σ' m s ds vs R hv e
    cases hv with
    | nil => cases e; exact wpAny_pure ⟨m, R, .refl s⟩
    | cons _ _ => cases e
  | @cons x i y ys xs hx hy _ ih =>
    intro σ σ' m s ds vs R hv e
    cases hv with
    | nil => cases e
    | @cons d v ds vs p1 p2 =>
      show wpAny _ A (do holding vs (bindName (F.env L a cd) y v); assignInOrder (ys.map fun y => bindName (F.env L a cd) y) vs) _ _ s
      refine wpAny_bind (wpAny_holding (wpAny_bindName (wpAny_mono (store_one hF hx hy R p1) (fun _ s₁ ⟨m', R₁, hs₁⟩ => ?_) fun _ _ x => x)))
      exact wpAny_mono (ih R₁ p2 e) (fun _ s₂ ⟨m₂, R₂, hs₂⟩ => ⟨m₂, R₂, hs₁.trans hs₂⟩) fun _ _ x => x
theorem setVs_nx : ∀ {xs : List Lens} {ds : List D} {σ : St}, setVs xs ds σ ≠ .no → ∃ σ', setVs xs ds σ = .nx σ'
  | [], [], σ, _ => ⟨σ, rfl⟩
  | [], _ :: _, _, h => absurd rfl h
  | _ :: _, [], _, h => absurd rfl h
  | x :: xs, d :: ds, σ, h => setVs_nx (xs := xs) (ds := ds) (σ := x.s d σ) h
theorem setVs_len : ∀ {xs : List Lens} {ds : List D} {σ σ' : St}, setVs xs ds σ = .nx σ' → xs.length = ds.length
  | [], [], _, _, _ => rfl
  | [], _ :: _, _, _, h => by cases h
  | _ :: _, [], _, _, h => by cases h
  | x :: xs, d :: ds, σ, _, h => congrArg Nat.succ (setVs_len (xs := xs) (ds := ds) (σ := x.s d σ) h)

def PV (G : GE) (F : FC) (P : KM) (L : Addr) (K : KM) (ρ : List Addr) (σ' : St) (m : Str → Option Value) (s : Shared) (ds : List D) (vs : List Value) (s' : Shared) : Prop :=
  ∃ K' ρ', Ext K ρ K' ρ' ∧ Rel G F.names P L K' ρ' σ' m s' ∧ VL G.fa K' ρ' ds vs ∧ Same s s'
def OkV (G : GE) (F : FC) (n : Nat) (es : List Expr) (fs : List EM) : Prop :=
  ∀ {A : Around} {L a : Addr} {cd : Value} {K P : KM} {ρ : List Addr} {σ : St} {m : Str → Option Value} {s : Shared} {ds : List D} {σ' : St} {pos : Pos}, Room n A → Rel G F.names P L K ρ σ m s → eVs fs σ = .ok ds σ' →
    wpAny (model G.prog G.w) A (spliced (backTo pos (starEach es (F.env L a cd)))) (PV G F P L K ρ σ' m s ds) NoE s
theorem okV_nil : OkV G F n [] [] := by
  intro A L a cd K P ρ σ m s ds σ' pos hA R h
  cases h
  exact args_nil ⟨K, ρ, .refl .., R, .nil, .refl s⟩
theorem okV_cons {e : Expr} {es : List Expr} {f : EM} {fs : List EM} (hf : OkE G F n e f) (hr : OkV G F n es fs) (hs : ∀ env, starEach (e :: es) env = (false, eval e env) :: starEach es env) : OkV G F n (e :: es) (f :: fs) := by
  intro A L a cd K P ρ σ m s ds σ' pos hA R h
  have h0 : ((f σ).el .no fun a σ => (eVs fs σ).el .no fun ds σ => .ok (a :: ds) σ) = RL.ok ds σ' := h
  obtain ⟨d₁, σ₁, h1, h2⟩ := RE.inv h0 nofun
  obtain ⟨ds', σ₃, h5, h6⟩ := RL.inv h2 nofun
  cases h6
  refine args_cons (wpAny_mono (hf hA R h1) (fun v s₁ ⟨K₁, ρ₁, x₁, R₁, hv₁, hs₁⟩ => ?_) fun _ _ x => x) (hs _)
  exact wpAny_mono (hr hA R₁ h5) (fun vs s₂ ⟨K₃, ρ₃, x₃, R₃, hd₃, hs₃⟩ => ⟨K₃, ρ₃, x₁.trans x₃, R₃, .cons (hv₁.ext x₃) hd₃, hs₁.trans hs₃⟩) fun _ _ x => x
theorem eVs_len : ∀ {fs : List EM} {σ σ' : St} {ds : List D}, eVs fs σ = .ok ds σ' → ds.length = fs.length
  | [], _, _, _, h => by cases h; rfl
  | f :: fs, σ, σ', ds, h => by
    have h0 : ((f σ).el .no fun a σ => (eVs fs σ).el .no fun ds σ => .ok (a :: ds) σ) = RL.ok ds σ' := h
    obtain ⟨d₁, σ₁, h1, h2⟩ := RE.inv h0 nofun
    obtain ⟨ds', σ₃, h5, h6⟩ := RL.inv h2 nofun
    cases h6
    exact congrArg Nat.succ (eVs_len h5)
theorem elL_ne {r : RL} {k : List D → St → RS} (h : r.el RS.no k ≠ .no) : ∃ d σ, r = .ok d σ ∧ k d σ ≠ .no := by
  cases r with
  | no => exact absurd rfl h
  | ok d σ => exact ⟨d, σ, rfl, h⟩
theorem isTuple_push (h : Heap) (vs : List Value) : (h.push { cls := .type "tuple", data := .seq vs.toArray }).IsTuple h.objs.size vs.toArray := ⟨_, Heap.get?_push_size _ rfl, rfl, _, rfl⟩
theorem keep_ext {h h' : Heap} (x : Heap.ExtBut h.objs.size h h') : ∀ b o, h.get? b = some o → h'.get? b = some o := fun b o e => x b o (Nat.ne_of_lt (Heap.lt_size e)) e

theorem ok_setTup (hF : F.Ok) {elts es : List Expr} {xs : List Lens} {fs : List EM} {k k' : Nat} {p p' pos : Pos} (ht : Tg F elts xs) (hv : OkV G F n es fs) (hl : fs.length ≤ 1000)
    (hs : ∀ L a cd, swapsWithSole [.Tuple elts k p] (.Tuple es k' p') pos.line (F.env L a cd) = pure false) (hw : ∀ L a cd, swappedStores [.Tuple elts k p] (.Tuple es k' p') (F.env L a cd) = pure none) :
    OkS G F n (.Assign [.Tuple elts k p] (.Tuple es k' p') pos) (sTup xs fs) := by
  intro A L a cd K P ρ σ m s hA R h
  obtain ⟨ds, σ₁, h1, h2⟩ := elL_ne h
  obtain ⟨σ₂, h3⟩ := setVs_nx h2
  have e0 : sTup xs fs σ = .nx σ₂ := by unfold sTup; rw [h1]; exact h3
  rw [e0]
  refine Assign_Tuple (wpAny_Tuple (wpAny_mono (hv hA R h1) (fun vs s₁ ⟨K₁, ρ₁, x₁, R₁, hd, hs₁⟩ => ?_) fun _ _ x => x)) (hs L a cd) (hw L a cd)
  have hlen := hd.length
  have hl2 := eVs_len h1
  refine ⟨by rw [← hlen, hl2]; exact size_lt hl, ?_⟩
  obtain ⟨t1, t2⟩ := ht.length (F.env L a cd)
  refine wpAny_assign_Tuple hA.1 (isTuple_push s₁.heap vs) ?_ t2 fun h' hx => ?_
  · rw [t1, setVs_len h3, hlen, List.size_toArray]
  · have R₂ := R₁.ext (tk := s₁.toks) (fun b o e => keep_ext hx b o (keep_push _ _ b o e))
    exact wpAny_mono (tg_assign hF ht R₂ hd h3) (fun _ s₃ ⟨m', R₃, hs₃⟩ => .nx x₁ R₃ (hs₁.trans ((Same.of s₁ h' s₁.toks).trans hs₃))) fun _ _ x => x

theorem ok_setTupR (hF : F.Ok) {elts es : List Expr} {xs : List Lens} {ys : List Str} {fs : List EM} {k k' : Nat} {p p' pos : Pos} (ht : TgN F ys.reverse xs) (hv : OkV G F n es fs) (hl : fs.length ≤ 1000) (hn : ys.length = xs.length)
    (hs : ∀ L a cd, swapsWithSole [.Tuple elts k p] (.Tuple es k' p') pos.line (F.env L a cd) = pure false) (hw : ∀ L a cd, swappedStores [.Tuple elts k p] (.Tuple es k' p') (F.env L a cd) = pure (some ys)) :
    OkS G F n (.Assign [.Tuple elts k p] (.Tuple es k' p') pos) (sTupR xs fs) := by
  intro A L a cd K P ρ σ m s hA R h
  obtain ⟨ds, σ₁, h1, h2⟩ := elL_ne h
  rw [revR_eq] at h2
  obtain ⟨σ₂, h3⟩ := setVs_nx h2
  have e0 : sTupR xs fs σ = .nx σ₂ := by
    unfold sTupR; rw [h1]
    show setVs xs (revR ds) σ₁ = _
    rw [revR_eq]; exact h3
  rw [e0]
  refine Assign_Tuple_swapped (wpAny_Tuple (wpAny_mono (hv hA R h1) (fun vs s₁ ⟨K₁, ρ₁, x₁, R₁, hd, hs₁⟩ => ?_) fun _ _ x => x)) (hs L a cd) (hw L a cd)
  have hlen := hd.length
  have hl2 := eVs_len h1
  refine ⟨by rw [← hlen, hl2]; exact size_lt hl, ?_⟩
  have hsz : ys.length = vs.toArray.size := by rw [hn, setVs_len h3, List.length_reverse, hlen, List.size_toArray]
  rw [hsz]
  refine wpAny_unpackItems_tuple hA.1 (isTuple_push s₁.heap vs) fun h' hx => ?_
  have R₂ := R₁.ext (tk := s₁.toks) (fun b o e => keep_ext hx b o (keep_push _ _ b o e))
  exact wpAny_mono (tg_bind hF ht R₂ hd.reverse h3) (fun _ s₃ ⟨m', R₃, hs₃⟩ => .nx x₁ R₃ (hs₁.trans ((Same.of s₁ h' s₁.toks).trans hs₃))) fun _ _ x => x
theorem onT_ne {d : D} {k : List D → RS} (h : d.onT RS.no k ≠ .no) : ∃ xs, d = .tup xs ∧ k xs ≠ .no := by
  cases d <;> first | exact ⟨_, rfl, h⟩ | exact absurd rfl h
theorem ok_unp (hF : F.Ok) {elts : List Expr} {e : Expr} {xs : List Lens} {f : EM} {k : Nat} {p pos : Pos} (ht : Tg F elts xs) (hf : OkE G F n e f)
    (hs : ∀ L a cd, swapsWithSole [.Tuple elts k p] e pos.line (F.env L a cd) = pure false) (hw : ∀ L a cd, swappedStores [.Tuple elts k p] e (F.env L a cd) = pure none) :
    OkS G F n (.Assign [.Tuple elts k p] e pos) (sUnp xs f) := by
  intro A L a cd K P ρ σ m s hA R h
  obtain ⟨d, σ₁, h1, h2⟩ := el_ne h
  obtain ⟨ds, rfl, h3⟩ := onT_ne h2
  obtain ⟨σ₂, h4⟩ := setVs_nx h3
  have e0 : sUnp xs f σ = .nx σ₂ := by unfold sUnp; rw [h1]; exact h4
  rw [e0]
  refine Assign_Tuple (wpAny_mono (hf hA R h1) (fun v s₁ ⟨K₁, ρ₁, x₁, R₁, hv, hs₁⟩ => ?_) fun _ _ x => x) (hs L a cd) (hw L a cd)
  obtain ⟨b, vs, q, rfl, hb, hl, hd⟩ := hv.tup
  obtain ⟨t1, t2⟩ := ht.length (F.env L a cd)
  have hlen := hd.length
  refine wpAny_assign_Tuple hA.1 ⟨_, R₁.hp.keepK _ _ hb, rfl, q, rfl⟩ ?_ t2 fun h' hx => ?_
  · rw [t1, setVs_len h4, hlen, List.size_toArray]
  · have R₂ := R₁.ext (tk := s₁.toks) (keep_ext hx)
    exact wpAny_mono (tg_assign hF ht R₂ (.of hd) h4) (fun _ s₃ ⟨m', R₃, hs₃⟩ => .nx x₁ R₃ (hs₁.trans ((Same.of s₁ h' s₁.toks).trans hs₃))) fun _ _ x => x
end
end Goo
end
-- GStmt2
section
open PySem PyProof.Rows
namespace Goo
section
variable {G : GE} {F : FC} {n : Nat}
theorem elT_ne {r : RT} {f g : St → RS} (h : r.el RS.no f g ≠ .no) : r ≠ .no := fun q => h (by rw [q]; rfl)
theorem ok_ifs {t : Expr} {ss es : List Stmt} {c : TM} {a b : SM} {pos : Pos} (ht : OkT G F n t c) (ha : OkB G F n ss a) (hb : OkB G F n es b) : OkS G F n (.If t ss es pos) (sIf c a b) := by
  intro A L cc cd K P ρ σ m s hA R h
  refine wpAny_If (wpAny_mono (ht hA R (elT_ne h)) (fun q s₁ ⟨K₁, ρ₁, σ₁, x₁, R₁, e₁, hs₁⟩ => ?_) fun _ _ x => x)
  unfold sIf at h ⊢
  rw [e₁] at h ⊢
  cases q with
  | true => exact wpAny_mono (ha hA R₁ h) (fun f s₂ q => PS.up x₁ hs₁ q) fun _ _ x => x
  | false => exact wpAny_mono (hb hA R₁ h) (fun f s₂ q => PS.up x₁ hs₁ q) fun _ _ x => x
theorem ok_ret {e : Expr} {f : EM} {pos : Pos} (hf : OkE G F n e f) : OkS G F n (.Return (some e) pos) (sRet f) := by
  intro A L a cd K P ρ σ m s hA R h
  obtain ⟨d, σ₁, h1, h2⟩ := el_ne h
  obtain ⟨d', σ₂, h3, h4⟩ := el_ne h2
  have e0 : sRet f σ = .rt d' σ₂ := by
    unfold sRet; rw [h1]
    show (frz d σ₁).el RS.no RS.rt = _
    rw [h3]; rfl
  rw [e0]
  refine wpAny_Return_some (wpAny_mono (hf hA R h1) (fun v s₁ ⟨K₁, ρ₁, x₁, R₁, hv, hs₁⟩ => ?_) fun _ _ x => x)
  obtain ⟨K₂, x₂, R₂, hd⟩ := R₁.freeze hv h3
  exact ⟨K₂, ρ₁, m, σ₂, x₁.trans x₂, R₂, hs₁, .inr (.inr ⟨d', v, rfl, rfl, hd⟩)⟩
theorem ok_brk {pos : Pos} : OkS G F n (.Break pos) sBrk := fun hA R h => wpAny_Break ⟨_, _, _, _, .refl .., R, .refl _, .inr (.inl ⟨rfl, rfl⟩)⟩
theorem ok_fail {st : Stmt} : OkS G F n st sFail := fun hA R h => absurd rfl h

theorem onI_ne {d : D} {k : Int → RS} (h : d.onI RS.no k ≠ .no) : ∃ i, d = .int i ∧ k i ≠ .no := by
  cases d <;> first | exact ⟨_, rfl, h⟩ | exact absurd rfl h
theorem onR_ne {d : D} {k : Nat → RS} (h : d.onR RS.no k ≠ .no) : ∃ i, d = .ref i ∧ k i ≠ .no := by
  cases d <;> first | exact ⟨_, rfl, h⟩ | exact absurd rfl h
theorem onN_ne {d : D} {k : RS} (h : d.onN RS.no k ≠ .no) : d = .none ∧ k ≠ .no := by
  cases d <;> first | exact ⟨rfl, h⟩ | exact absurd rfl h
theorem nth_ne {xs : List Ob} {i : Nat} {k : Ob → RS} (h : nthK xs i RS.no k ≠ .no) : ∃ o, xs[i]? = some o ∧ k o ≠ .no := by
  rw [nthK_eq] at h
  split at h
  · rename_i x e; exact ⟨x, e, h⟩
  · exact absurd rfl h
theorem onO_ne {o : Ob} {k : List D → RS} (h : o.onO RS.no k ≠ .no) : ∃ xs, o = .ow xs ∧ k xs ≠ .no := by
  cases o with
  | fz xs => exact absurd rfl h
  | ow xs => exact ⟨xs, rfl, h⟩
theorem onB_ne {b : Bool} {k : RS} (h : onB b k RS.no ≠ .no) : b = true ∧ k ≠ .no := by
  cases b
  · exact absurd rfl h
  · exact ⟨rfl, h⟩
theorem onZ_ne {i : Int} {k : Nat → RS} (h : onZ i k (fun _ => RS.no) ≠ .no) : ∃ q : Nat, i = q ∧ k q ≠ .no := by
  cases i with
  | ofNat q => exact ⟨q, rfl, h⟩
  | negSucc q => exact absurd rfl h
theorem ref_var (hF : F.Ok) {P : KM} {L : Addr} {K : KM} {ρ : List Addr} {σ : St} {m : Str → Option Value} {s : Shared} {x : Lens} {i : Nat} {y : Str} (hx : x.At i) (hy : F.names[i]? = some y) (R : Rel G F.names P L K ρ σ m s) {k : Nat} (e : x.g σ = .ref k) :
    ∃ l, m y = some (.ref l) ∧ ρ[k]? = some l := by
  rw [hx.get] at e
  obtain ⟨v, e1, e2⟩ := R.vars i y hy (by rw [e]; exact nofun)
  rw [e] at e2
  obtain ⟨l, r, rfl⟩ := e2.refI
  exact ⟨l, e1, r⟩
theorem pre_get {ρ ρ' : List Addr} (h : ρ <+: ρ') {k : Nat} {l : Addr} (r : ρ[k]? = some l) : ρ'[k]? = some l := by
  obtain ⟨t, e⟩ := h
  rw [← e, List.getElem?_append_left (List.getElem?_eq_some_iff.mp r).1]
  exact r

theorem ok_setIdx (hF : F.Ok) {x : Lens} {i : Nat} {y : Str} {ix e : Expr} {g f : EM} {p p' pos : Pos} (hx : x.At i) (hy : F.names[i]? = some y) (hg : OkE G F n ix g) (hf : OkE G F n e f)
    (hs : ∀ L a cd, swapsWith e (some (.Subscript (.Name y p) ix p')) pos.line (F.env L a cd) = pure false) :
    OkS G F n (.Assign [.Subscript (.Name y p) ix p'] e pos) (sIdx x g f) := by
  intro A L a cd K P ρ σ m s hA R h
  obtain ⟨d, σ₁, h1, h2⟩ := el_ne h
  obtain ⟨d', σ₂, h3, h4⟩ := el_ne h2
  obtain ⟨k, h5, h6⟩ := onR_ne h4
  obtain ⟨dk, σ₃, h7, h8⟩ := el_ne h6
  obtain ⟨z, rfl, h9⟩ := onI_ne h8
  obtain ⟨o, h10, h11⟩ := nth_ne h9
  obtain ⟨xs, rfl, h12⟩ := onO_ne h11
  obtain ⟨q, rfl, h13⟩ := onZ_ne h12
  obtain ⟨h14, h15⟩ := onB_ne h13
  have h14 := ble_iff.mp h14
  rw [len_eq] at h14
  have h14 : q < xs.length := h14
  have e0 : sIdx x g f σ = .nx (putL k (xs.set q d') σ₃) := by
    unfold sIdx; rw [h1]
    show (frz d σ₁).el RS.no _ = _
    rw [h3]
    show (x.g σ₂).onR RS.no _ = _
    rw [h5]
    show (g σ₂).el RS.no _ = _
    rw [h7]
    show nthK σ₃.objs k RS.no _ = _
    rw [nthK_eq, h10]
    show onB (Nat.ble (q + 1) (len xs)) (lsetK xs q d' fun ys => RS.nx (putL k ys σ₃)) RS.no = _
    rw [len_eq, onB_eq, if_pos (ble_iff.mpr h14), lsetK_eq]
  rw [e0, putL_eq]
  obtain ⟨l1, l2⟩ := hF.loc y (List.mem_of_getElem? hy)
  refine wpAny_Assign_Subscript (wpAny_mono (hf hA R h1) (fun v s₁ ⟨K₁, ρ₁, x₁, R₁, hv, hs₁⟩ => ?_) fun _ _ x => x) (hs L a cd)
  obtain ⟨K₂, x₂, R₂, hd⟩ := R₁.freeze hv h3
  obtain ⟨l, e1, r⟩ := ref_var hF hx hy R₂ h5
  refine wpAny_Name (wpAny_loadName_local (env := F.env L a cd) hF.kind l1 R₂.ns e1 (wpAny_mono (hg hA R₂ h7) (fun u s₂ ⟨K₃, ρ₃, x₃, R₃, hu, hs₂⟩ => ?_) fun _ _ x => x)) l2
  obtain ⟨t, rfl⟩ := hu.int
  have r₃ := pre_get x₃.r r
  have X := R₃.objs k _ l h10 r₃
  obtain ⟨vs, c, hl, hxs⟩ := X.at'
  have hlen : xs.length = vs.length := hxs.length
  have hsz : xs.length ≤ 1000 := X.size
  refine W.ki_setAt (n := c) (show s₂.heap.get? l = some (W.listOf vs.toArray c) from hl) (by omega) (by omega) (by simp only [List.size_toArray]; omega) ?_
  have hup := Heap.get?_update_self (Obj.mapSeq (·.setIfInBounds (q : Int).toNat v)) hl rfl
  refine .nx (x₁.trans (x₂.trans x₃)) (R₃.putO (tk := s₂.toks) (vs := vs.set q v) (n := c) h10 r₃ ?_ (fun b o hb e => (Heap.get?_update_other _ _ (Ne.symm hb)).trans e) (hxs.set (hd.mono x₃.k) q) (by rw [List.length_set]; exact hsz)) (hs₁.trans (hs₂.trans (.of ..)))
  rw [hup]
  simp [Obj.mapSeq, lobj]

theorem ok_app (hF : F.Ok) {x : Lens} {i : Nat} {y : Str} {e : Expr} {f : EM} {p p' p'' pos : Pos} (hx : x.At i) (hy : F.names[i]? = some y) (hf : OkE G F n e f)
    (hs : ∀ env, starEach [e] env = (false, eval e env) :: starEach [] env)
    (he : ∀ env, eval (.Call (.Attribute (.Name y p) "append" p') [e] [] p'') env = (do
      let ov ← eval (.Name y p) env
      standAt p'.atName
      let (f, first) ← holding [ov] (getMethod ov "append" (plOf (.Name y p) env))
      callWith p'' f first (backTo p'' (starEach [e] env)) []))
    (hi : ∀ L a cd, interactive (F.env L a cd) = false) (hsw : ∀ L a cd, swapsWith (.Call (.Attribute (.Name y p) "append" p') [e] [] p'') none pos.line (F.env L a cd) = pure false) :
    OkS G F n (.Expr (.Call (.Attribute (.Name y p) "append" p') [e] [] p'') pos) (sApp x f) := by
  intro A L a cd K P ρ σ m s hA R h
  obtain ⟨k, h1, h2⟩ := onR_ne h
  obtain ⟨d, σ₁, h3, h4⟩ := el_ne h2
  obtain ⟨d', σ₂, h5, h6⟩ := el_ne h4
  obtain ⟨o, h7, h8⟩ := nth_ne h6
  obtain ⟨xs, rfl, h9⟩ := onO_ne h8
  obtain ⟨h10, h11⟩ := onB_ne h9
  have hc := ble_iff.mp h10
  rw [len_eq] at hc
  have hc : xs.length + 1 ≤ 1000 := hc
  have e0 : sApp x f σ = .nx (putL k (xs ++ [d']) σ₂) := by
    unfold sApp; rw [h1]
    show (f σ).el RS.no _ = _
    rw [h3]
    show (frz d σ₁).el RS.no _ = _
    rw [h5]
    show nthK σ₂.objs k RS.no _ = _
    rw [nthK_eq, h7]
    show onB (Nat.ble (Nat.succ (len xs)) 1000) (appK xs [d'] fun ys => RS.nx (putL k ys σ₂)) RS.no = _
    rw [h10, appK_eq]; rfl
  rw [e0, putL_eq]
  obtain ⟨l1, l2⟩ := hF.loc y (List.mem_of_getElem? hy)
  obtain ⟨l, e1, r⟩ := ref_var hF hx hy R h1
  have hl0 := R.lt r
  obtain ⟨_, _, hl, _⟩ := (R.objs k _ l (List.getElem?_eq_getElem (R.len ▸ (List.getElem?_eq_some_iff.mp r).1)) r).at'
  refine wpAny_Expr (MethodCall_ (wpAny_Name (wpAny_loadName_local (env := F.env L a cd) hF.kind l1 R.ns e1 (Calls.getMethod_list_append hl rfl rfl (callWith_method1 (args_cons (wpAny_mono (hf hA R h3) (fun v s₁ ⟨K₁, ρ₁, x₁, R₁, hv, hs₁⟩ => args_nil ?_) fun _ _ x => x) (hs _)) (hs _)))) l2) (he _)) (hi L a cd) (hsw L a cd)
  obtain ⟨K₂, x₂, R₂, hd⟩ := R₁.freeze hv h5
  have r₂ := pre_get (x₁.r.trans x₂.r) r
  have X := R₂.objs k _ l h7 r₂
  obtain ⟨vs, c, hl, hxs⟩ := X.at'
  have hlen : xs.length = vs.length := hxs.length
  refine append_at (n := c) hl (fun h' hsb ho' => ?_) (by simp only [List.size_toArray]; rw [sizeLine_eq]; omega)
  refine .nx (x₁.trans x₂) (R₂.putO (tk := s₁.toks) (vs := vs ++ [v]) (n := c + 1) h7 r₂ ?_ (fun b o hb e => (hsb.2 b hb).trans e) (hxs.append (.cons hd .nil)) ?_) (hs₁.trans (.of ..))
  · rw [ho']; simp [lobj]
  · rw [List.length_append, List.length_singleton]; omega
theorem ok_exp {e : Expr} {f : EM} {pos : Pos} (hf : OkE G F n e f) (hi : ∀ L a cd, interactive (F.env L a cd) = false) (hsw : ∀ L a cd, swapsWith e none pos.line (F.env L a cd) = pure false) : OkS G F n (.Expr e pos) (sExp f) := by
  intro A L a cd K P ρ σ m s hA R h
  obtain ⟨d, σ₁, h1, h2⟩ := el_ne h
  obtain ⟨rfl, _⟩ := onN_ne h2
  have e0 : sExp f σ = .nx σ₁ := by unfold sExp; rw [h1]; rfl
  rw [e0]
  refine wpAny_Expr (wpAny_mono (hf hA R h1) (fun v s₁ ⟨K₁, ρ₁, x₁, R₁, hv, hs₁⟩ => ?_) fun _ _ x => x) (hi L a cd) (hsw L a cd)
  have := hv.none
  subst this
  exact .nx x₁ R₁ hs₁
theorem ok_revs (hF : F.Ok) {x : Lens} {i : Nat} {y : Str} {p p' p'' pos : Pos} (hx : x.At i) (hy : F.names[i]? = some y)
    (he : ∀ env, eval (.Call (.Attribute (.Name y p) "reverse" p') [] [] p'') env = (do
      let ov ← eval (.Name y p) env
      standAt p'.atName
      let (f, first) ← holding [ov] (getMethod ov "reverse" (plOf (.Name y p) env))
      callWith p'' f first (backTo p'' (starEach [] env)) []))
    (hi : ∀ L a cd, interactive (F.env L a cd) = false) (hsw : ∀ L a cd, swapsWith (.Call (.Attribute (.Name y p) "reverse" p') [] [] p'') none pos.line (F.env L a cd) = pure false) :
    OkS G F n (.Expr (.Call (.Attribute (.Name y p) "reverse" p') [] [] p'') pos) (sRev x) := by
  intro A L a cd K P ρ σ m s hA R h
  obtain ⟨k, h1, h2⟩ := onR_ne h
  obtain ⟨o, h7, h8⟩ := nth_ne h2
  obtain ⟨xs, rfl, h9⟩ := onO_ne h8
  have e0 : sRev x σ = .nx (putL k xs.reverse σ) := by
    unfold sRev; rw [h1]
    show nthK σ.objs k RS.no _ = _
    rw [nthK_eq, h7]
    show forceL (revR xs) (fun ys => RS.nx (putL k ys σ)) = _
    rw [forceL_eq, revR_eq]
  rw [e0, putL_eq]
  obtain ⟨l1, l2⟩ := hF.loc y (List.mem_of_getElem? hy)
  obtain ⟨l, e1, r⟩ := ref_var hF hx hy R h1
  have X := R.objs k _ l h7 r
  obtain ⟨vs, c, hl, hxs⟩ := X.at'
  have hlen : xs.length = vs.length := hxs.length
  have hsz : xs.length ≤ 1000 := X.size
  refine wpAny_Expr (MethodCall_ (wpAny_Name (wpAny_loadName_local (env := F.env L a cd) hF.kind l1 R.ns e1 (getMethod_list_of PySem.F.slot_list_reverse PySem.F.type_list_reverse (isList_of hl) ⟨_, hl, rfl⟩ ?_)) l2) (he _)) (hi L a cd) (hsw L a cd)
  refine PySem.P.reverse_list (n := c) hl ?_ (by simp only [List.size_toArray]; rw [sizeLine_eq]; omega)
  have hup := Heap.get?_update_self (Obj.mapSeq fun x => x.reverse) hl rfl
  refine .nx (.refl ..) (R.putO (tk := s.toks) (vs := vs.reverse) (n := c) h7 r ?_ (fun b o hb e => (Heap.get?_update_other _ _ (Ne.symm hb)).trans e) hxs.reverse (by rw [List.length_reverse]; exact hsz)) (.of ..)
  rw [hup]
  simp [Obj.mapSeq, lobj]
end
end Goo
end
-- GLoop
section
open PySem PyProof.Rows
namespace Goo
section
variable {G : GE} {F : FC} {n : Nat}
theorem whileN_succ (t : TM) (b : SM) (k : Nat) (σ : St) : whileN t b (k + 1) σ = (t σ).el .no (fun σ => (b σ).lp (whileN t b k)) .nx := rfl
theorem ok_while {t : Expr} {ss : List Stmt} {c : TM} {b : SM} {pos : Pos} (ht : OkT G F n t c) (hb : OkB G F n ss b) : OkS G F n (.While t ss [] pos) (sWhile c b) := by
  intro A L a cd K P ρ σ m s hA R h
  refine wpAny_While (codeAny_mono (R := fun r s' => ∃ f, r = .ok f ∧ PS G F P L K ρ s (sWhile c b σ) f s') ?_ ?_)
  · refine codeAny_whileLoop (fun k s' => ∃ K' ρ' σ' m', Ext K ρ K' ρ' ∧ Rel G F.names P L K' ρ' σ' m' s' ∧ Same s s' ∧ whileN c b k σ' = sWhile c b σ) ?_ 100000 ⟨K, ρ, σ, m, .refl .., R, .refl s, rfl⟩
    rintro k s' ⟨K', ρ', σ', m', x', R', hs', e⟩
    cases k with
    | zero => exact absurd e.symm h
    | succ k =>
      rw [whileN_succ] at e
      have hne : c σ' ≠ .no := fun q => by rw [q] at e; exact h e.symm
      refine wpAny_mono (ht hA R' hne) (fun q s₁ ⟨K₁, ρ₁, σ₁, x₁, R₁, e₁, hs₁⟩ => ?_) fun _ _ x => x.elim
      rw [e₁] at e
      cases q with
      | false =>
        rw [if_neg Bool.false_ne_true]
        exact wpAny_execs_nil ⟨.next, rfl, ⟨K₁, ρ₁, m', σ₁, x'.trans x₁, R₁, hs'.trans hs₁, .inl ⟨e.symm, rfl⟩⟩⟩
      | true =>
        rw [if_pos rfl]
        have e' : (b σ₁).lp (whileN c b k) = sWhile c b σ := e
        have hne' : b σ₁ ≠ .no := fun q => by rw [q] at e'; exact h e'.symm
        refine wpAny_mono (hb hA R₁ hne') (fun f s₂ ⟨K₂, ρ₂, m₂, σ₂, x₂, R₂, hs₂, q⟩ => ?_) fun _ _ x => x.elim
        have xx := x'.trans (x₁.trans x₂)
        have ss := hs'.trans (hs₁.trans hs₂)
        rcases q with ⟨e₂, rfl⟩ | ⟨e₂, rfl⟩ | ⟨d, v, e₂, rfl, hd⟩ <;> rw [e₂] at e'
        · exact ⟨k, Nat.lt_succ_self k, K₂, ρ₂, σ₂, m₂, xx, R₂, ss, e'⟩
        · exact ⟨.next, rfl, K₂, ρ₂, m₂, σ₂, xx, R₂, ss, .inl ⟨e'.symm, rfl⟩⟩
        · exact ⟨.ret v, rfl, K₂, ρ₂, m₂, σ₂, xx, R₂, ss, .inr (.inr ⟨d, v, e'.symm, rfl, hd⟩)⟩
  · rintro r s' ⟨f, rfl, q⟩
    exact q

/-- objects that the loop alone changes -/
structure Off (K P : KM) (L : Addr) (ρ : List Addr) (b : Addr) : Prop where
  k : K b = none
  p : P b = none
  l : b ≠ L
  r : b ∉ ρ
theorem Rel.frame {P : KM} {L : Addr} {K : KM} {ρ : List Addr} {σ : St} {m : Str → Option Value} {s : Shared} (R : Rel G F.names P L K ρ σ m s) {fp : List Addr} (hf : ∀ b ∈ fp, Off K P L ρ b) {h' : Heap} {tk : Nat}
    (k : ∀ b o, b ∉ fp → s.heap.get? b = some o → h'.get? b = some o) : Rel G F.names P L K ρ σ m { s with heap := h', toks := tk } := by
  have nk : ∀ b o, K b = some o → b ∉ fp := fun b o e q => by rw [(hf b q).k] at e; cases e
  have np : ∀ b o, P b = some o → b ∉ fp := fun b o e q => by rw [(hf b q).p] at e; cases e
  refine ⟨⟨R.hp.base, fun b o e => k b o (nk b o e) (R.hp.keepK b o e), fun b o e => k b o (np b o e) (R.hp.keepP b o e), R.hp.disj⟩, R.ns.at' fun o e => k L o (fun q => (hf L q).l rfl) e, R.lk, R.lp, R.vars, R.len, fun i o b e r => ?_, R.inj⟩
  exact (R.objs i o b e r).grow K.le_refl (fun _ _ _ e => e) fun ob z => k b ob (fun q => (hf b q).r (List.mem_of_getElem? r)) z
/-- the loop's own objects stand while its body runs -/
def withP (P : KM) (fp : List Addr) (h : Heap) : KM := fun b => if b ∈ fp then h.get? b else P b
theorem Rel.addP {P : KM} {L : Addr} {K : KM} {ρ : List Addr} {σ : St} {m : Str → Option Value} {s : Shared} (R : Rel G F.names P L K ρ σ m s) {fp : List Addr} (hf : ∀ b ∈ fp, Off K P L ρ b) : Rel G F.names (withP P fp s.heap) L K ρ σ m s := by
  have pl : ∀ b, b ∉ fp → withP P fp s.heap b = P b := fun b q => if_neg q
  refine ⟨⟨fun b o e => ?_, R.hp.keepK, fun b o e => ?_, fun b o e => ?_⟩, R.ns, R.lk, ?_, R.vars, R.len, fun i o b e r => ?_, R.inj⟩
  · rcases R.hp.base b o e with q | q
    · exact .inl q
    · right
      unfold withP
      split
      · exact R.hp.keepP b o q
      · exact q
  · unfold withP at e
    split at e
    · exact e
    · exact R.hp.keepP b o e
  · rw [pl b fun q => by rw [(hf b q).k] at e; cases e]
    exact R.hp.disj b o e
  · rw [pl L fun q => (hf L q).l rfl]; exact R.lp
  · have X := R.objs i o b e r
    refine ⟨X.size, X.at', X.fz, fun xs y => ?_⟩
    rw [pl b fun q => (hf b q).r (List.mem_of_getElem? r)]
    exact X.ow xs y
theorem Rel.dropP {P : KM} {L : Addr} {K K' : KM} {ρ ρ' : List Addr} {σ σ' : St} {m m' : Str → Option Value} {s s' : Shared} {fp : List Addr} (R : Rel G F.names P L K ρ σ m s) (hf : ∀ b ∈ fp, Off K P L ρ b) (hfp : ∀ b ∈ fp, (s.heap.get? b).isSome = true) (x : Ext K ρ K' ρ')
    (R' : Rel G F.names (withP P fp s.heap) L K' ρ' σ' m' s') : Rel G F.names P L K' ρ' σ' m' s' ∧ (∀ b ∈ fp, Off K' P L ρ' b) ∧ ∀ b ∈ fp, s'.heap.get? b = s.heap.get? b := by
  have pl : ∀ b, b ∉ fp → withP P fp s.heap b = P b := fun b q => if_neg q
  have up : ∀ b o, P b = some o → withP P fp s.heap b = some o := fun b o e => (pl b fun q => by rw [(hf b q).p] at e; cases e).trans e
  have pin : ∀ b ∈ fp, ∃ o, withP P fp s.heap b = some o ∧ s.heap.get? b = some o := fun b q => by
    obtain ⟨o, e⟩ := Option.isSome_iff_exists.mp (hfp b q)
    exact ⟨o, (if_pos q).trans e, e⟩
  have hoff : ∀ b ∈ fp, Off K' P L ρ' b := fun b q => by
    obtain ⟨o, e, _⟩ := pin b q
    have hk : K' b = none := by
      cases z : K' b with
      | none => rfl
      | some o' => rw [R'.hp.disj b o' z] at e; cases e
    refine ⟨hk, (hf b q).p, (hf b q).l, fun z => ?_⟩
    obtain ⟨i, hi, rfl⟩ := List.getElem_of_mem z
    have r : ρ'[i]? = some ρ'[i] := List.getElem?_eq_getElem hi
    have X := R'.objs i _ _ (List.getElem?_eq_getElem (R'.len ▸ hi)) r
    generalize σ'.objs[i]'(R'.len ▸ hi) = ob at X
    cases ob with
    | fz xs =>
      obtain ⟨vs, c, ho, _⟩ := X.at'
      rw [X.fz xs rfl _ ho] at hk; cases hk
    | ow xs => rw [(X.ow xs rfl).2.1] at e; cases e
  refine ⟨⟨⟨fun b o e => (R.hp.base b o e).imp (x.k b o) id, R'.hp.keepK, fun b o e => R'.hp.keepP b o (up b o e), fun b o e => ?_⟩, R'.ns, R'.lk, R.lp, R'.vars, R'.len, fun i o b e r => ?_, R'.inj⟩, hoff, fun b q => ?_⟩
  · cases z : P b with
    | none => rfl
    | some o' => have := R'.hp.disj b o e; rw [up b o' z] at this; cases this
  · have X := R'.objs i o b e r
    refine ⟨X.size, X.at', X.fz, fun xs y => ?_⟩
    obtain ⟨y1, y2, y3⟩ := X.ow xs y
    refine ⟨y1, ?_, y3⟩
    cases z : P b with
    | none => rfl
    | some o' => rw [up b o' z] at y2; cases y2
  · obtain ⟨o, e, e'⟩ := pin b q
    rw [e']
    exact R'.hp.keepP b o e

/-- an iterator over data -/
structure Turns (G : GE) (F : FC) (A : Around) (L a : Addr) (cd : Value) (P : KM) (K₀ : KM) (target : Expr) (it : Value) (fp : List Addr) (ds : List D) (step : D → SM) (Si : Nat → Heap → Prop) : Prop where
  frame : ∀ i h h', Si i h → (∀ b ∈ fp, h'.get? b = h.get? b) → (∀ b o, K₀ b = some o → h'.get? b = some o) → Si i h'
  some' : ∀ i h, Si i h → ∀ b ∈ fp, (h.get? b).isSome = true
  item : ∀ {i : Nat} {d : D} {K : KM} {ρ : List Addr} {σ σ₁ : St} {m : Str → Option Value} {s : Shared}, ds[i]? = some d → K₀.le K → Rel G F.names P L K ρ σ m s → (∀ b ∈ fp, Off K P L ρ b) → Si i s.heap → step d σ = .nx σ₁ →
    wpAny (model G.prog G.w) A (pyNext it) (fun r s₁ => ∃ v, r = some v ∧ wpAny (model G.prog G.w) A (letOwnedTupleGo target it v) (fun _ s₂ => wpAny (model G.prog G.w) A (assign target (F.env L a cd) v)
      (fun _ s₃ => ∃ m', Rel G F.names P L K ρ σ₁ m' s₃ ∧ Si (i + 1) s₃.heap ∧ Same s s₃) NoE s₂) NoE s₁) NoE s
  done : ∀ {K : KM} {ρ : List Addr} {σ : St} {m : Str → Option Value} {s : Shared}, K₀.le K → Rel G F.names P L K ρ σ m s → (∀ b ∈ fp, Off K P L ρ b) → Si ds.length s.heap →
    wpAny (model G.prog G.w) A (pyNext it) (fun r s₁ => r = none ∧ Rel G F.names P L K ρ σ m s₁ ∧ Same s s₁) NoE s
def StepNx (step : D → SM) : Prop := ∀ d σ, step d σ ≠ .no → ∃ σ₁, step d σ = .nx σ₁

theorem forD_cons (step : D → SM) (b : SM) (d : D) (ds : List D) (σ : St) : forD step b (d :: ds) σ = (step d σ).nxt fun σ => (b σ).lp (forD step b ds) := rfl
theorem for_run {A : Around} {L a : Addr} {cd : Value} {P K : KM} {ρ : List Addr} {σ : St} {m : Str → Option Value} {s : Shared} {target : Expr} {it : Value} {fp : List Addr} {ds : List D} {step : D → SM} {Si : Nat → Heap → Prop} {ss : List Stmt} {b : SM}
    (hA : Room n A) (T : Turns G F A L a cd P K target it fp ds step Si) (hst : StepNx step) (hb : OkB G F n ss b) (R : Rel G F.names P L K ρ σ m s) (hf : ∀ b ∈ fp, Off K P L ρ b) (h0 : Si 0 s.heap) (h : forD step b ds σ ≠ .no) :
    codeAny (model G.prog G.w) A (.forLoop target it ss [] (F.env L a cd)) (fun r s' => ∃ f, r = .ok f ∧ PS G F P L K ρ s (forD step b ds σ) f s') s := by
  refine codeAny_forLoop_any (fun k s' => ∃ i K' ρ' σ' m', k = ds.length - i ∧ i ≤ ds.length ∧ Ext K ρ K' ρ' ∧ Rel G F.names P L K' ρ' σ' m' s' ∧ Same s s' ∧ (∀ b ∈ fp, Off K' P L ρ' b) ∧ Si i s'.heap ∧ forD step b (ds.drop i) σ' = forD step b ds σ) ?_ ds.length
    ⟨0, K, ρ, σ, m, rfl, Nat.zero_le _, .refl .., R, .refl s, hf, h0, rfl⟩
  rintro k s' ⟨i, K', ρ', σ', m', rfl, hi, x', R', hs', hf', hS, e⟩
  by_cases hlt : i < ds.length
  · rw [List.drop_eq_getElem_cons hlt, forD_cons] at e
    have hne : step ds[i] σ' ≠ .no := fun q => by rw [q] at e; exact h e.symm
    obtain ⟨σ₁, e₁⟩ := hst _ _ hne
    rw [e₁] at e
    have e' : (b σ₁).lp (forD step b (ds.drop (i + 1))) = forD step b ds σ := e
    have hne' : b σ₁ ≠ .no := fun q => by rw [q] at e'; exact h e'.symm
    refine wpAny_mono (T.item (List.getElem?_eq_getElem hlt) x'.k R' hf' hS e₁) (fun r s₁ ⟨v, hr, w1⟩ => ?_) fun _ _ x => x.elim
    subst hr
    refine wpAny_mono w1 (fun _ s₂ w2 => wpAny_mono w2 (fun _ s₃ ⟨m₃, R₃, S₃, hs₃⟩ => ?_) fun _ _ x => x.elim) fun _ _ x => x.elim
    have hin := T.some' _ _ S₃
    refine wpAny_mono (hb hA (R₃.addP hf') hne') (fun f s₄ ⟨K₄, ρ₄, m₄, σ₄, x₄, R₄, hs₄, q⟩ => ?_) fun _ _ x => x.elim
    obtain ⟨R₅, hf₅, hk₅⟩ := R₃.dropP hf' hin x₄ R₄
    have xx := x'.trans x₄
    have hss := hs'.trans (hs₃.trans hs₄)
    rcases q with ⟨e₂, rfl⟩ | ⟨e₂, rfl⟩ | ⟨d, v', e₂, rfl, hd⟩ <;> rw [e₂] at e'
    · exact ⟨ds.length - (i + 1), by omega, i + 1, K₄, ρ₄, σ₄, m₄, rfl, hlt, xx, R₅, hss, hf₅, T.frame _ _ _ S₃ hk₅ (fun b o z => R₄.hp.keepK b o (xx.k b o z)), e'⟩
    · exact ⟨.next, rfl, K₄, ρ₄, m₄, σ₄, xx, R₅, hss, .inl ⟨e'.symm, rfl⟩⟩
    · exact ⟨.ret v', rfl, K₄, ρ₄, m₄, σ₄, xx, R₅, hss, .inr (.inr ⟨d, v', e'.symm, rfl, hd⟩)⟩
  · have hi' : i = ds.length := by omega
    subst hi'
    rw [List.drop_length] at e
    refine wpAny_mono (T.done x'.k R' hf' hS) (fun r s₁ ⟨hr, R₁, hs₁⟩ => ?_) fun _ _ x => x.elim
    subst hr
    exact wpAny_execs_nil ⟨.next, rfl, K', ρ', m', σ', x', R₁, hs'.trans hs₁, .inl ⟨e.symm, rfl⟩⟩

/-- a source of a loop -/
def OkI (G : GE) (F : FC) (n : Nat) (target e : Expr) (step : D → SM) (f : IM) : Prop :=
  ∀ {A : Around} {L a : Addr} {cd : Value} {K P : KM} {ρ : List Addr} {σ : St} {m : Str → Option Value} {s : Shared} {ds : List D} {σ' : St}, Room n A → Rel G F.names P L K ρ σ m s → f σ = .ok ds σ' →
    wpAny (model G.prog G.w) A (eval e (F.env L a cd)) (fun v s₁ => wpAny (model G.prog G.w) A (pyIter v) (fun it s₂ => ∃ K' ρ' fp Si, Ext K ρ K' ρ' ∧ Rel G F.names P L K' ρ' σ' m s₂ ∧ Same s s₂ ∧
      Turns G F A L a cd P K' target it fp ds step Si ∧ (∀ b ∈ fp, Off K' P L ρ' b) ∧ Si 0 s₂.heap) NoE s₁) NoE s
theorem ok_for {target e : Expr} {ss : List Stmt} {step : D → SM} {f : IM} {b : SM} {pos : Pos} (hi : OkI G F n target e step f) (hst : StepNx step) (hb : OkB G F n ss b) (hs : ∀ L a cd x, foldedSetIterable e (F.env L a cd) x = pure x) :
    OkS G F n (.For target e ss [] pos) (sFor step f b) := by
  intro A L a cd K P ρ σ m s hA R h
  obtain ⟨ds, σ₁, h1, h2⟩ := elL_ne h
  have e0 : sFor step f b σ = forD step b ds σ₁ := by unfold sFor; rw [h1]; rfl
  rw [e0]
  refine wpAny_For (wpAny_mono (hi hA R h1) (fun v s₁ w1 => wpAny_mono w1 (fun it s₂ ⟨K', ρ', fp, Si, x', R', hs', T, hf, h0⟩ => ?_) fun _ _ x => x) fun _ _ x => x) (hs L a cd)
  refine codeAny_mono (for_run hA T hst hb R' hf h0 h2) fun r s' ⟨f, hr, q⟩ => ?_
  subst hr
  exact PS.up x' hs' q
theorem step1_nx (x : Lens) : StepNx (set1 x) := fun d σ _ => ⟨_, rfl⟩
theorem step2_nx (x y : Lens) : StepNx (set2 x y) := fun d σ h => by
  obtain ⟨ds, rfl, h'⟩ := onT_ne h
  exact setVs_nx h'
end
end Goo
end
-- GIter
section
open PySem PyProof.Rows
namespace Goo
section
variable {G : GE} {F : FC} {n : Nat}
theorem off_new {P : KM} {L : Addr} {K : KM} {ρ : List Addr} {σ : St} {m : Str → Option Value} {s : Shared} (R : Rel G F.names P L K ρ σ m s) {b : Addr} (hb : s.heap.objs.size ≤ b) : Off K P L ρ b :=
  ⟨R.hp.freshK hb, R.hp.freshP hb, Nat.ne_of_gt (Nat.lt_of_lt_of_le R.ns.lt hb), fun q => by
    obtain ⟨i, hi, rfl⟩ := List.getElem_of_mem q
    exact absurd (R.lt (List.getElem?_eq_getElem hi)) (Nat.not_lt.mpr hb)⟩

theorem turns_walk (hF : F.Ok) {A : Around} {L a : Addr} {cd : Value} {P K₀ : KM} {I : Addr} {fpW : List Addr} {cnt : Nat} {Pv : Nat → Value → Prop} {Si : Nat → Heap → Prop} {ds : List D} {x : Lens} {i₀ : Nat} {y : Str} {p : Pos} (hx : x.At i₀) (hy : F.names[i₀]? = some y)
    (W : Walks G.prog G.w A I fpW [I] cnt Pv Si) (hn : cnt = ds.length) (hv : ∀ i v, Pv i v → ∀ d, ds[i]? = some d → DR G.fa K₀ d v)
    (hfr : ∀ i h h', Si i h → h'.get? I = h.get? I → (∀ b o, K₀ b = some o → h'.get? b = some o) → Si i h') (hsm : ∀ i h, Si i h → (h.get? I).isSome = true) :
    Turns G F A L a cd P K₀ (.Name y p) (.ref I) [I] ds (set1 x) Si where
  frame := fun i h h' st k k' => hfr i h h' st (k I (.head _)) k'
  some' := fun i h st b hb => by rw [List.mem_singleton.mp hb]; exact hsm i h st
  item := by
    intro i d K ρ σ σ₁ m s hd le R hf hS e
    cases e
    have hlt : i < ds.length := (List.getElem?_eq_some_iff.mp hd).1
    refine W.item i s _ NoE (hn ▸ hlt) hS fun v h' tk hP hS' hk => ⟨v, rfl, ?_⟩
    have R₁ := R.frame (tk := tk) hf hk
    have hval := (hv i v hP d hd).mono le
    show wpAny _ A (pure ()) _ _ _
    refine wpAny_pure (wpAny_assign_Name (wpAny_mono (store_one hF hx hy (R₁.addP hf) (.d hval)) (fun _ s₃ ⟨m', R₃, hs₃⟩ => ?_) fun _ _ x => x))
    have hin : ∀ b ∈ [I], (h'.get? b).isSome = true := fun b hb => by rw [List.mem_singleton.mp hb]; exact hsm _ _ hS'
    obtain ⟨R₄, hf₄, hk₄⟩ := R₁.dropP hf hin (.refl ..) R₃
    exact ⟨m', R₄, hfr _ _ _ hS' (hk₄ I (.head _)) (fun b o z => R₄.hp.keepK b o (le b o z)), (Same.of s h' tk).trans hs₃⟩
  done := by
    intro K ρ σ m s le R hf hS
    exact W.done s _ NoE (hn ▸ hS) fun h' tk hk => ⟨rfl, R.frame hf hk, .of s h' tk⟩

theorem numsUp_get : ∀ (k : Nat) (a : Int) (i : Nat) (d : D), (numsUp k a)[i]? = some d → d = .int (a + (i : Int) * 1)
  | 0, _, _, _, h => by cases h
  | k + 1, a, i, d, h => by
    have e : numsUp (k + 1) a = .int a :: numsUp k (a + 1) := by
      show .int a :: forceI (zadd a (.ofNat 1)) (numsUp k) = _
      rw [forceI_eq, zadd_eq]; rfl
    rw [e] at h
    cases i with
    | zero => cases h; congr 1; omega
    | succ i =>
      have := numsUp_get k (a + 1) i d h
      rw [this]; congr 1; push_cast; omega
theorem numsUp_len : ∀ (k : Nat) (a : Int), (numsUp k a).length = k
  | 0, _ => rfl
  | k + 1, a => by
    show (forceI (zadd a (.ofNat 1)) (numsUp k)).length + 1 = _
    rw [forceI_eq, numsUp_len]
theorem numsDn_get : ∀ (k : Nat) (a : Int) (i : Nat) (d : D), (numsDn k a)[i]? = some d → d = .int (a + (i : Int) * -1)
  | 0, _, _, _, h => by cases h
  | k + 1, a, i, d, h => by
    have e : numsDn (k + 1) a = .int a :: numsDn k (a - 1) := by
      show .int a :: forceI (zsub a (.ofNat 1)) (numsDn k) = _
      rw [forceI_eq, zsub_eq]; rfl
    rw [e] at h
    cases i with
    | zero => cases h; congr 1; omega
    | succ i =>
      have := numsDn_get k (a - 1) i d h
      rw [this]; congr 1; push_cast; omega
theorem numsDn_len : ∀ (k : Nat) (a : Int), (numsDn k a).length = k
  | 0, _ => rfl
  | k + 1, a => by
    show (forceI (zsub a (.ofNat 1)) (numsDn k)).length + 1 = _
    rw [forceI_eq, numsDn_len]

/-- the iterator of a range, made -/
theorem range_iter (hF : F.Ok) {A : Around} {L a : Addr} {cd : Value} {K P : KM} {ρ : List Addr} {σ : St} {m : Str → Option Value} {s₀ s : Shared} {ds : List D} {x : Lens} {i₀ : Nat} {y : Str} {p : Pos} {r : Addr} {lo hi st : Int} {t u v : Tok}
    (hh : A.handled = none) (hx : x.At i₀) (hy : F.names[i₀]? = some y) {K₀ : KM} {ρ₀ : List Addr} (xx : Ext K₀ ρ₀ K ρ) (hs : Same s₀ s) (R : Rel G F.names P L K ρ σ m s) (hr : IsRange s.heap r lo hi st t u v) (hsm : Builtin.Range.small lo hi st = true)
    (hl : ((ds.length : Nat) : Int) = Builtin.Range.rangeSize lo hi st) (hd : ∀ (i : Nat) (d : D), ds[i]? = some d → d = .int (lo + (i : Int) * st)) :
    wpAny (model G.prog G.w) A (pyIter (.ref r)) (fun it s₂ => ∃ K' ρ' fp Si, Ext K₀ ρ₀ K' ρ' ∧ Rel G F.names P L K' ρ' σ m s₂ ∧ Same s₀ s₂ ∧
      Turns G F A L a cd P K' (.Name y p) it fp ds (set1 x) Si ∧ (∀ b ∈ fp, Off K' P L ρ' b) ∧ Si 0 s₂.heap) NoE s := by
  refine wpAny_pyIter_range hr hsm ?_
  refine ⟨K, ρ, [s.heap.objs.size], _, xx, R.ext (tk := s.toks) (keep_push _ _), hs.trans (.of ..), turns_walk hF hx hy (Walks.range hh s.heap.objs.size lo st ds.length) rfl ?_ ?_ ?_, fun b hb => ?_, ?_⟩
  · rintro i v ⟨t, rfl⟩ d e
    rw [hd i d e]; exact .int _ _
  · intro i h h' st k _
    exact k.trans st
  · intro i h st
    rw [show h.get? s.heap.objs.size = _ from st]; rfl
  · rw [List.mem_singleton.mp hb]
    exact off_new R (Nat.le_refl _)
  · show Heap.get? _ _ = _
    rw [Heap.get?_push_size _ rfl, ← hl]
    simp
theorem small_bound {k : Int} (h : small k = true) : -(2 ^ 61) ≤ k ∧ k ≤ 2 ^ 61 := by
  have := small_le h
  omega
theorem okI_range1 (hF : F.Ok) (hG : GOk G) {x : Lens} {i₀ : Nat} {y : Str} {p p' pos : Pos} {e : Expr} {f : EM} (hx : x.At i₀) (hy : F.names[i₀]? = some y) (hf : OkE G F n e f) (hl : F.scope.names.lookup ("range" : Str) = some .globalImplicit)
    (hs : ∀ env, starEach [e] env = (false, eval e env) :: starEach [] env) : OkI G F n (.Name y p) (.Call (.Name "range" p') [e] [] pos) (set1 x) (iR1 f) := by
  intro A L a cd K P ρ σ m s ds σ' hA R h
  obtain ⟨d₁, σ₁, h1, h2⟩ := RE.inv h nofun
  obtain ⟨k, rfl, h3⟩ := D.onI_inv h2 nofun
  obtain ⟨c, h4⟩ := onB_inv h3 nofun
  cases h4
  refine Call_ (name_bi hF hG R hl rfl (.tail _ (.head _)) (PyProof.Rows.callWith_type1 (argsOne hf hA R h1 (fun v s₁ ⟨K₁, ρ₁, x₁, R₁, hv, hs₁⟩ => ?_) (hs _)) (hs _)))
  obtain ⟨t, rfl⟩ := hv.int
  have hb := small_bound c
  refine call_range_1 ?_
  have R₂ := R₁.ext (tk := s₁.toks + 1 + 1) (keep_push s₁.heap { cls := .type "range", data := .fields #[.int 0 s₁.toks, .int k t, .int 1 (s₁.toks + 1)] })
  refine range_iter hF hA.1 hx hy x₁ (hs₁.trans (.of ..)) R₂ (IsRange.new ..) (small_one (by omega) (by omega) (by omega) (by omega)) ?_ ?_
  · rw [numsUp_len, toN_eq, rangeSize_one]
    split <;> omega
  · intro i d e
    have := numsUp_get _ _ i d e
    rw [this]
    rfl
theorem okI_range2 (hF : F.Ok) (hG : GOk G) {x : Lens} {i₀ : Nat} {y : Str} {p p' pos : Pos} {e₁ e₂ : Expr} {f g : EM} (hx : x.At i₀) (hy : F.names[i₀]? = some y) (hf : OkE G F n e₁ f) (hg : OkE G F n e₂ g) (hl : F.scope.names.lookup ("range" : Str) = some .globalImplicit)
    (hs : ∀ env, starEach [e₁, e₂] env = (false, eval e₁ env) :: starEach [e₂] env) (hs' : ∀ env, starEach [e₂] env = (false, eval e₂ env) :: starEach [] env) : OkI G F n (.Name y p) (.Call (.Name "range" p') [e₁, e₂] [] pos) (set1 x) (iR2 f g) := by
  intro A L a cd K P ρ σ m s ds σ' hA R h
  obtain ⟨d₁, σ₁, h1, h2⟩ := RE.inv h nofun
  obtain ⟨d₂, σ₂, h3, h4⟩ := RE.inv h2 nofun
  obtain ⟨k, rfl, h5⟩ := D.onI_inv h4 nofun
  obtain ⟨j, rfl, h6⟩ := D.onI_inv h5 nofun
  obtain ⟨c, h7⟩ := onB_inv h6 nofun
  obtain ⟨c', h8⟩ := onB_inv h7 nofun
  cases h8
  refine Call_ (name_bi hF hG R hl rfl (.tail _ (.head _)) (PyProof.Rows.callWith_type1 (args_cons (wpAny_mono (hf hA R h1) (fun v s₁ ⟨K₁, ρ₁, x₁, R₁, hv₁, hs₁⟩ =>
    args_cons (wpAny_mono (hg hA R₁ h3) (fun u s₂ ⟨K₂, ρ₂, x₂, R₂, hv₂, hs₂⟩ => args_nil ?_) fun _ _ x => x) (hs' _)) fun _ _ x => x) (hs _)) (hs _) (by rw [hs' _]; rfl)))
  obtain ⟨t, rfl⟩ := hv₁.int
  obtain ⟨t', rfl⟩ := hv₂.int
  have hb := small_bound c
  have hb' := small_bound c'
  refine call_range_2 ?_
  have R₃ := R₂.ext (tk := s₂.toks + 1) (keep_push s₂.heap { cls := .type "range", data := .fields #[.int k t, .int j t', .int 1 s₂.toks] })
  refine range_iter hF hA.1 hx hy (x₁.trans x₂) ((hs₁.trans hs₂).trans (.of ..)) R₃ (IsRange.new ..) (small_one (by omega) (by omega) (by omega) (by omega)) ?_ ?_
  · rw [numsUp_len, toN_eq, rangeSize_one, zsub_eq]
    split <;> omega
  · intro i d e
    exact numsUp_get _ _ i d e
theorem rangeSize_dn (a b : Int) : Builtin.Range.rangeSize a b (-1) = if a > b then a - b else 0 := by
  unfold Builtin.Range.rangeSize
  rw [if_neg (by decide)]
  split
  · simp only [Int.neg_neg, Int.ediv_one]; omega
  · rfl
theorem small_dn {a b : Int} (ha : -(2 ^ 61) ≤ a) (ha' : a ≤ 2 ^ 61) (hb : -(2 ^ 61) ≤ b) (hb' : b ≤ 2 ^ 61) : Builtin.Range.small a b (-1) = true := by
  unfold Builtin.Range.small
  rw [rangeSize_dn]
  simp only [Builtin.Range.rangeFitsLong, Bool.and_eq_true, Bool.or_eq_true, decide_eq_true_eq, beq_iff_eq, show ¬ ((-1 : Int) > 0) by decide, if_false]
  split <;> omega
theorem okI_rangeD (hF : F.Ok) (hG : GOk G) {x : Lens} {i₀ : Nat} {y : Str} {p p' pos : Pos} {e₁ e₂ e₃ : Expr} {f g : EM} (hx : x.At i₀) (hy : F.names[i₀]? = some y) (hf : OkE G F n e₁ f) (hg : OkE G F n e₂ g) (h3' : OkE G F n e₃ (eNeg (eI 1))) (hl : F.scope.names.lookup ("range" : Str) = some .globalImplicit)
    (hs : ∀ env, starEach [e₁, e₂, e₃] env = (false, eval e₁ env) :: starEach [e₂, e₃] env) (hs' : ∀ env, starEach [e₂, e₃] env = (false, eval e₂ env) :: starEach [e₃] env) (hs'' : ∀ env, starEach [e₃] env = (false, eval e₃ env) :: starEach [] env) : OkI G F n (.Name y p) (.Call (.Name "range" p') [e₁, e₂, e₃] [] pos) (set1 x) (iRd f g) := by
  intro A L a cd K P ρ σ m s ds σ' hA R h
  obtain ⟨d₁, σ₁, h1, h2⟩ := RE.inv h nofun
  obtain ⟨d₂, σ₂, h3, h4⟩ := RE.inv h2 nofun
  obtain ⟨k, rfl, h5⟩ := D.onI_inv h4 nofun
  obtain ⟨j, rfl, h6⟩ := D.onI_inv h5 nofun
  obtain ⟨c, h7⟩ := onB_inv h6 nofun
  obtain ⟨c', h8⟩ := onB_inv h7 nofun
  have h9 : eNeg (eI 1) σ₂ = .ok (.int (-1)) σ₂ := rfl
  cases h8
  refine Call_ (name_bi hF hG R hl rfl (.tail _ (.head _)) (PyProof.Rows.callWith_type1 (args_cons (wpAny_mono (hf hA R h1) (fun v s₁ ⟨K₁, ρ₁, x₁, R₁, hv₁, hs₁⟩ =>
    args_cons (wpAny_mono (hg hA R₁ h3) (fun u s₂ ⟨K₂, ρ₂, x₂, R₂, hv₂, hs₂⟩ => args_cons (wpAny_mono (h3' hA R₂ h9) (fun w s₃ ⟨K₃, ρ₃, x₃, R₃, hv₃, hs₃⟩ => args_nil ?_) fun _ _ x => x) (hs'' _)) fun _ _ x => x) (hs' _)) fun _ _ x => x) (hs _)) (hs _) (by rw [hs' _, hs'' _]; rfl)))
  obtain ⟨t, rfl⟩ := hv₁.int
  obtain ⟨t', rfl⟩ := hv₂.int
  obtain ⟨t'', rfl⟩ := hv₃.int
  have hb := small_bound c
  have hb' := small_bound c'
  refine call_range_3 (by decide) ?_ (Or.inl (PyProof.noPylong_small (by decide)))
  have R₄ := R₃.ext (tk := s₃.toks) (keep_push s₃.heap { cls := .type "range", data := .fields #[.int k t, .int j t', .int (-1) t''] })
  refine range_iter hF hA.1 hx hy (x₁.trans (x₂.trans x₃)) (((hs₁.trans hs₂).trans hs₃).trans (.of ..)) R₄ (IsRange.new ..) (small_dn (by omega) (by omega) (by omega) (by omega)) ?_ ?_
  · rw [numsDn_len, toN_eq, rangeSize_dn, zsub_eq]
    split <;> omega
  · intro i d e
    exact numsDn_get _ _ i d e
end
end Goo
end
-- GIter2
section
open PySem PyProof.Rows
namespace Goo
section
variable {G : GE} {F : FC} {n : Nat}
theorem okI_seq (hF : F.Ok) {x : Lens} {i₀ : Nat} {y : Str} {p : Pos} {e : Expr} {f : EM} (hx : x.At i₀) (hy : F.names[i₀]? = some y) (hf : OkE G F n e f) : OkI G F n (.Name y p) e (set1 x) (iL f) := by
  intro A L a cd K P ρ σ m s ds σ' hA R h
  obtain ⟨d, σ₁, h1, h2⟩ := RE.inv h nofun
  have h3 : ∃ xs, (d = .list xs ∨ d = .tup xs) ∧ RL.ok xs σ₁ = RL.ok ds σ' := D.onS_inv h2 nofun
  obtain ⟨xs, hd, h4⟩ := h3
  cases h4
  refine wpAny_mono (hf hA R h1) (fun v s₁ ⟨K₁, ρ₁, x₁, R₁, hv, hs₁⟩ => ?_) fun _ _ x => x
  rcases hd with rfl | rfl
  · obtain ⟨b, vs, q, rfl, hb, hl, hds⟩ := hv.list
    have hb' := R₁.hp.keepK _ _ hb
    have hne : b ≠ s₁.heap.objs.size := Nat.ne_of_lt (Heap.lt_size hb')
    refine wpAny_pyIter_list (isList_of hb') ⟨K₁, ρ₁, [s₁.heap.objs.size], _, x₁, R₁.ext (tk := s₁.toks) (keep_push _ _), hs₁.trans (.of ..),
      turns_walk hF hx hy (Walks.list hA.1 s₁.heap.objs.size b hne vs.toArray) (by rw [List.size_toArray]; exact hds.length.symm) ?_ ?_ ?_, fun c hc => ?_, ⟨_, Heap.get?_push_size _ rfl, rfl, rfl⟩, isList_of (Heap.get?_push_of_some _ hb')⟩
    · intro i v hP d e
      obtain ⟨u, e1, e2⟩ := hds.get e
      have : vs[i]? = some v := by simpa using hP
      rw [e1] at this; cases this
      exact e2
    · intro i h h' st k k'
      refine ⟨st.1.at fun o e => k.trans e, ?_⟩
      exact isList_of (k' b _ hb)
    · intro i h st
      obtain ⟨o, e, _⟩ := st.1
      rw [e]; rfl
    · rw [List.mem_singleton.mp hc]
      exact off_new R₁ (Nat.le_refl _)
  · obtain ⟨b, vs, q, rfl, hb, hl, hds⟩ := hv.tup
    have hb' := R₁.hp.keepK _ _ hb
    have hne : b ≠ s₁.heap.objs.size := Nat.ne_of_lt (Heap.lt_size hb')
    refine wpAny_pyIter_tuple ⟨_, hb', rfl, q, rfl⟩ ⟨K₁, ρ₁, [s₁.heap.objs.size], _, x₁, R₁.ext (tk := s₁.toks) (keep_push _ _), hs₁.trans (.of ..),
      turns_walk hF hx hy (Walks.tuple hA.1 s₁.heap.objs.size b hne vs.toArray) (by rw [List.size_toArray]; exact hds.length.symm) ?_ ?_ ?_, fun c hc => ?_, ⟨_, Heap.get?_push_size _ rfl, rfl, rfl⟩, ⟨_, Heap.get?_push_of_some _ hb', rfl, q, rfl⟩⟩
    · intro i v hP d e
      obtain ⟨u, e1, e2⟩ := hds.get e
      have : vs[i]? = some v := by simpa using hP
      rw [e1] at this; cases this
      exact e2
    · intro i h h' st k k'
      exact ⟨st.1.at fun o e => k.trans e, ⟨_, k' b _ hb, rfl, q, rfl⟩⟩
    · intro i h st
      obtain ⟨o, e, _⟩ := st.1
      rw [e]; rfl
    · rw [List.mem_singleton.mp hc]
      exact off_new R₁ (Nat.le_refl _)

theorem go_tupleiter {A : Around} {E : Value → Shared → Prop} {s : Shared} {elts : List Expr} {x1 : Nat} {pos : Pos} {I t : Addr} {v : Value} {i : Nat} {Q : Unit → Shared → Prop} (hit : s.heap.IsTupleIter I t i) (hQ : Q () s) :
    wpAny (model G.prog G.w) A (letOwnedTupleGo (.Tuple elts x1 pos) (.ref I) v) Q E s := by
  obtain ⟨o, ho, hc, hd⟩ := hit
  unfold letOwnedTupleGo
  cases v with
  | ref T =>
    refine wpAny_bind (wpAny_load ho ?_)
    rw [hc, hd]
    dsimp only
    rw [if_neg (by
      rw [show (["enumerate", "zip", "dict_itemiterator", "dict_reverseitemiterator", "odict_iterator", "itertools.zip_longest", "itertools.pairwise"].contains "tuple_iterator") = false from by decide, Bool.false_and]
      exact Bool.false_ne_true)]
    exact wpAny_pure hQ
  | _ => exact wpAny_pure hQ

theorem okI_pairs (hF : F.Ok) {x z : Lens} {i₀ j₀ : Nat} {y w : Str} {k : Nat} {p p' p'' : Pos} {e : Expr} {f : EM} (hx : x.At i₀) (hy : F.names[i₀]? = some y) (hz : z.At j₀) (hw : F.names[j₀]? = some w)
    (hf : OkE G F n e f) :
    OkI G F n (.Tuple [.Name y p, .Name w p'] k p'') e (set2 x z) (iT f) := by
  intro A L a cd K P ρ σ m s ds σ' hA R h
  obtain ⟨d, σ₁, h1, h2⟩ := RE.inv h nofun
  have h3 : ∃ xs, d = .tup xs ∧ RL.ok xs σ₁ = RL.ok ds σ' := D.onT_inv h2 nofun
  obtain ⟨xs, rfl, h4⟩ := h3
  cases h4
  refine wpAny_mono (hf hA R h1) (fun v s₁ ⟨K₁, ρ₁, x₁, R₁, hv, hs₁⟩ => ?_) fun _ _ x => x
  obtain ⟨b, vs, q, rfl, hb, hl, hds⟩ := hv.tup
  have hb' := R₁.hp.keepK _ _ hb
  have hne : b ≠ s₁.heap.objs.size := Nat.ne_of_lt (Heap.lt_size hb')
  have tg : Tg F [.Name y p, .Name w p'] [x, z] := .cons hx hy (.cons hz hw .nil)
  refine wpAny_pyIter_tuple ⟨_, hb', rfl, q, rfl⟩ ⟨K₁, ρ₁, [s₁.heap.objs.size], fun i h => h.IsTupleIter s₁.heap.objs.size b i ∧ h.IsTuple b vs.toArray, x₁, R₁.ext (tk := s₁.toks) (keep_push _ _), hs₁.trans (.of ..), ?_,
    fun c hc => ?_, ⟨_, Heap.get?_push_size _ rfl, rfl, rfl⟩, ⟨_, Heap.get?_push_of_some _ hb', rfl, q, rfl⟩⟩
  · refine ⟨fun i h h' st k k' => ⟨st.1.at fun o e => (k _ (.head _)).trans e, ⟨_, k' b _ hb, rfl, q, rfl⟩⟩, fun i h st c hc => ?_, ?_, ?_⟩
    · rw [List.mem_singleton.mp hc]
      obtain ⟨o, e, _⟩ := st.1
      rw [e]; rfl
    · intro i d K ρ σ σ₂ m s hd le R hf hS e
      obtain ⟨u, e1, e2⟩ := hds.get hd
      refine wpAny_pyNext_tuple_item hS.1 hS.2 (x := u) (by simpa using e1) fun h' hit' hsb => ⟨u, rfl, ?_⟩
      have R₂ := R.frame (tk := s.toks) hf (fun b o hb e => (hsb.2 b fun q => hb (by rw [q]; exact .head _)).trans e)
      obtain ⟨es, rfl, e3⟩ : ∃ es, d = .tup es ∧ setVs [x, z] es σ = .nx σ₂ := by
        obtain ⟨es, rfl, e'⟩ := onT_ne (d := d) (k := fun ds => setVs [x, z] ds σ) (by intro q; rw [show set2 x z d σ = _ from q] at e; cases e)
        exact ⟨es, rfl, e⟩
      refine go_tupleiter hit' ?_
      obtain ⟨T, us, q', rfl, hT, _, hes⟩ := (VR.d (ρ := ρ) (e2.mono le)).tup
      have hT' : h'.get? T = some (tobj us q') := R₂.hp.keepK _ _ hT
      obtain ⟨t1, t2⟩ := tg.length (F.env L a cd)
      refine wpAny_assign_Tuple hA.1 ⟨_, hT', rfl, q', rfl⟩ (by rw [t1, setVs_len e3, hes.length, List.size_toArray]) t2 fun h₃ hx₃ => ?_
      have R₃ := R₂.ext (tk := s.toks) (keep_ext hx₃)
      refine wpAny_mono (tg_assign hF tg (R₃.addP hf) (.of hes) e3) (fun _ s₄ ⟨m', R₄, hs₄⟩ => ?_) fun _ _ x => x
      obtain ⟨oi, hoi, hr⟩ := hit'
      have hoi₃ : h₃.get? s₁.heap.objs.size = some oi := keep_ext hx₃ _ _ hoi
      have hin : ∀ c ∈ [s₁.heap.objs.size], (h₃.get? c).isSome = true := fun c hc => by rw [List.mem_singleton.mp hc, hoi₃]; rfl
      obtain ⟨R₅, _, hk₅⟩ := R₃.dropP hf hin (.refl ..) R₄
      exact ⟨m', R₅, ⟨⟨oi, (hk₅ _ (.head _)).trans hoi₃, hr⟩, ⟨_, R₅.hp.keepK _ _ (le _ _ hb), rfl, q, rfl⟩⟩, (Same.of s h₃ s.toks).trans hs₄⟩
    · intro K ρ σ m s le R hf hS
      refine wpAny_pyNext_tuple_end hA.1 hS.1 hS.2 (by rw [hds.length]; simp) fun h' he => ⟨rfl, R.frame (tk := s.toks) hf fun b o hb e => he b o (fun q => hb (by rw [q]; exact .head _)) e, .of ..⟩
  · rw [List.mem_singleton.mp hc]
    exact off_new R₁ (Nat.le_refl _)

theorem numbered_get : ∀ (xs : List D) (k i : Nat) (d : D), (numbered xs k)[i]? = some d → ∃ x, xs[i]? = some x ∧ d = .tup [.int ((k + i : Nat) : Int), x]
  | [], _, _, _, h => by cases h
  | x :: r, k, i, d, h => by
    have e : numbered (x :: r) k = .tup [.int (k : Int), x] :: numbered r (k + 1) := by
      show .tup [.int (.ofNat k), x] :: forceN (Nat.succ k) (numbered r) = _
      rw [forceN_eq]; rfl
    rw [e] at h
    cases i with
    | zero => cases h; exact ⟨x, rfl, rfl⟩
    | succ i =>
      obtain ⟨u, e1, e2⟩ := numbered_get r (k + 1) i d h
      refine ⟨u, e1, ?_⟩
      rw [e2, show k + 1 + i = k + (i + 1) by omega]
theorem numbered_len : ∀ (xs : List D) (k : Nat), (numbered xs k).length = xs.length
  | [], _ => rfl
  | x :: r, k => by
    show (forceN (Nat.succ k) (numbered r)).length + 1 = _
    rw [forceN_eq, numbered_len]; rfl

theorem okI_enum (hF : F.Ok) (hG : GOk G) {x z : Lens} {i₀ j₀ : Nat} {y w : Str} {k : Nat} {p p' p'' pn pos : Pos} {e : Expr} {f : EM} (hx : x.At i₀) (hy : F.names[i₀]? = some y) (hz : z.At j₀) (hw : F.names[j₀]? = some w)
    (hf : OkE G F n e f) (hl : F.scope.names.lookup ("enumerate" : Str) = some .globalImplicit) (hs : ∀ env, starEach [e] env = (false, eval e env) :: starEach [] env) :
    OkI G F n (.Tuple [.Name y p, .Name w p'] k p'') (.Call (.Name "enumerate" pn) [e] [] pos) (set2 x z) (iEn f) := by
  intro A L a cd K P ρ σ m s ds σ' hA R h
  obtain ⟨d, σ₁, h1, h2⟩ := RE.inv h nofun
  obtain ⟨xs, rfl, h3⟩ := D.onL_inv h2 nofun
  cases h3
  have tg : Tg F [.Name y p, .Name w p'] [x, z] := .cons hx hy (.cons hz hw .nil)
  refine Call_ (name_bi hF hG R hl rfl (.tail _ (.tail _ (.head _))) (PyProof.Rows.callWith_type1 (argsOne hf hA R h1 (fun v s₁ ⟨K₁, ρ₁, x₁, R₁, hv, hs₁⟩ => ?_) (hs _)) (hs _)))
  obtain ⟨b, vs, q, rfl, hb, hlen, hds⟩ := hv.list
  have hb' := R₁.hp.keepK _ _ hb
  have hblt : b < s₁.heap.objs.size := Heap.lt_size hb'
  refine call_enumerate_1 hb' fun h' hen hit hsz hk => ?_
  have R₂ := R₁.ext (tk := s₁.toks) hk
  obtain ⟨I, hI⟩ : ∃ I, s₁.heap.objs.size = I := ⟨_, rfl⟩
  rw [hI] at hen hit hsz hblt ⊢
  have hei : I + 1 ≠ I := by omega
  have hbe : b ≠ I + 1 := Nat.ne_of_lt (Nat.lt_succ_of_lt hblt)
  have hbi : b ≠ I := Nat.ne_of_lt hblt
  refine wpAny_pyIter_enum hen ⟨K₁, ρ₁, [I + 1, I], fun i h => (∃ old, IsEnum h (I + 1) I i old) ∧ h.IsListIter I b i, x₁, R₂, hs₁.trans (.of ..), ?_, fun c hc => ?_, ⟨_, hen⟩, hit⟩
  · refine ⟨fun i h h' st k k' => ?_, fun i h st c hc => ?_, ?_, ?_⟩
    · obtain ⟨⟨old, he⟩, hi⟩ := st
      exact ⟨⟨old, (k _ (.head _)).trans he⟩, hi.at fun o e => (k _ (.tail _ (.head _))).trans e⟩
    · obtain ⟨⟨old, he⟩, ⟨oi, hoi, _⟩⟩ := st
      rcases List.mem_cons.mp hc with rfl | hc
      · rw [show h.get? (I + 1) = _ from he]; rfl
      · rw [List.mem_singleton.mp hc, hoi]; rfl
    · intro i d K ρ σ σ₂ m s hd le R hf hS e
      obtain ⟨⟨old, he⟩, hi⟩ := hS
      obtain ⟨u, e1, rfl⟩ := numbered_get _ _ _ _ hd
      obtain ⟨uv, e2, e3⟩ := hds.get e1
      have hbs : s.heap.get? b = some (lobj vs q) := R.hp.keepK _ _ (le _ _ hb)
      have helt : I + 1 < s.heap.objs.size := Heap.lt_size he
      have hilt : I < s.heap.objs.size := by omega
      refine wpAny_pyNext_enum_item he hi (isList_of hbs) (x := uv) (by simpa using e2) hei fun h₁ heo hit₁ hT hsz₁ hk₁ => ⟨_, rfl, ?_⟩
      refine wpAny_letOwnedTupleGo_enum heo fun h₂ he₂ hs₂ => ?_
      replace hs₂ : Heap.SameBut (I + 1) h₁ h₂ := hs₂
      have hT₂ : h₂.get? s.heap.objs.size = _ := (hs₂.2 _ (Nat.ne_of_gt helt)).trans hT
      have R₃ := R.frame (h' := h₂) (tk := s.toks + 1) hf (fun b o hb e => by
        have n1 : b ≠ I + 1 := fun q => hb (by rw [q]; exact .head _)
        have n2 : b ≠ I := fun q => hb (by rw [q]; exact .tail _ (.head _))
        exact (hs₂.2 b n1).trans (hk₁ b o n1 n2 e))
      have e4 : setVs [x, z] [.int ((0 + i : Nat) : Int), u] σ = .nx σ₂ := e
      obtain ⟨t1, t2⟩ := tg.length (F.env L a cd)
      refine wpAny_assign_Tuple hA.1 ⟨_, hT₂, rfl, _, rfl⟩ (by rw [t1]; rfl) t2 fun h₃ hx₃ => ?_
      have R₄ := R₃.ext (tk := s.toks + 1) (keep_ext hx₃)
      have hvl : VL G.fa K ρ [.int ((0 + i : Nat) : Int), u] [.int (i : Int) s.toks, uv] := by
        refine .cons (.d ?_) (.cons (.d (e3.mono le)) .nil)
        rw [Nat.zero_add]; exact .int _ _
      refine wpAny_mono (tg_assign hF tg (R₄.addP hf) hvl e4) (fun _ s₄ ⟨m', R₅, hs₅⟩ => ?_) fun _ _ x => x
      have he₃ : h₃.get? (I + 1) = _ := keep_ext hx₃ _ _ he₂
      obtain ⟨oi, hoi, hr⟩ := hit₁
      have hoi₃ : h₃.get? I = some oi := keep_ext hx₃ _ _ ((hs₂.2 I (Ne.symm hei)).trans hoi)
      have hin : ∀ c ∈ [I + 1, I], (h₃.get? c).isSome = true := fun c hc => by
        rcases List.mem_cons.mp hc with rfl | hc
        · rw [he₃]; rfl
        · rw [List.mem_singleton.mp hc, hoi₃]; rfl
      obtain ⟨R₆, _, hk₆⟩ := R₄.dropP hf hin (.refl ..) R₅
      refine ⟨m', R₆, ⟨⟨uv, ?_⟩, ⟨oi, (hk₆ _ (.tail _ (.head _))).trans hoi₃, hr⟩⟩, (Same.of s h₃ (s.toks + 1)).trans hs₅⟩
      exact (hk₆ _ (.head _)).trans he₃
    · intro K ρ σ m s le R hf hS
      obtain ⟨⟨old, he⟩, hi⟩ := hS
      have hbs : s.heap.get? b = some (lobj vs q) := R.hp.keepK _ _ (le _ _ hb)
      refine wpAny_pyNext_enum_end hA.1 he hi (isList_of hbs) (by rw [numbered_len, hds.length]; simp) fun h' hx' => ⟨rfl, R.frame (tk := s.toks) hf fun b o hb e => hx' b o (fun q => hb (by rw [q]; exact .tail _ (.head _))) e, .of ..⟩
  · rcases List.mem_cons.mp hc with rfl | hc
    · exact off_new R₁ (Nat.le_trans (Nat.le_of_eq hI) (Nat.le_succ I))
    · rw [List.mem_singleton.mp hc]
      exact off_new R₁ (Nat.le_of_eq hI)
end
end Goo
end
-- GCall
section
open PySem PyProof.Rows
namespace Goo
structure FnAt (G : GE) (b : Addr) (name : Str) (params : Arguments) (body : List Stmt) (scope : Scope) : Prop where
  ex : ∃ o pm cd doc, G.hb.get? b = some o ∧ o.data = .func (Calls.docDef name params body scope pm cd doc) ∧ G.hb.CodeRec cd name
theorem lookup_nodup {x : Str} {v : Value} : ∀ {l : List (Str × Value)}, (l.map (·.1)).Nodup → (x, v) ∈ l → l.lookup x = some v
  | (y, u) :: r, nd, h => by
    rw [List.map_cons, List.nodup_cons] at nd
    rw [List.lookup_cons]
    rcases List.mem_cons.mp h with e | h'
    · cases e; simp
    · have : (x == y) = false := by
        rw [beq_eq_false_iff_ne]
        rintro rfl
        exact nd.1 (List.mem_map.mpr ⟨(x, v), h', rfl⟩)
      rw [this]
      exact lookup_nodup nd.2 h'
theorem zip_mem {α β : Type} {xs : List α} {ys : List β} {i : Nat} {x : α} {y : β} (hx : xs[i]? = some x) (hy : ys[i]? = some y) : (x, y) ∈ xs.zip ys := by
  apply List.mem_of_getElem? (i := i)
  rw [List.getElem?_zip_eq_some]
  exact ⟨hx, hy⟩
theorem binds_get {names : List Str} {vs : List Value} (nd : names.Nodup) (hl : vs.length ≤ names.length) {i : Nat} {x : Str} {v : Value} (hx : names[i]? = some x) (hv : vs[i]? = some v) :
    ((names.take vs.length).zip vs).reverse.lookup x = some v := by
  have hi : i < vs.length := (List.getElem?_eq_some_iff.mp hv).1
  apply lookup_nodup
  · rw [List.map_reverse, List.map_fst_zip (by rw [List.length_take]; omega)]
    have h1 : (names.take vs.length).Nodup := nd.sublist (List.take_sublist ..)
    unfold List.Nodup at h1 ⊢
    rw [List.pairwise_reverse]
    exact h1.imp fun h => Ne.symm h
  · rw [List.mem_reverse]
    exact zip_mem (by rw [List.getElem?_take_of_lt hi]; exact hx) hv
theorem hd_nil (k : D → List D → St) : hd [] k = k .undef [] := rfl
theorem hd_cons (d : D) (ds : List D) (k : D → List D → St) : hd (d :: ds) k = k d ds := rfl
theorem st0_objs (ds : List D) (os : List Ob) : (st0 ds os).objs = os := by
  match ds with
  | [] | [_] | [_, _] | [_, _, _] | [_, _, _, _] | [_, _, _, _, _] | _ :: _ :: _ :: _ :: _ :: _ :: _ => rfl
theorem st0_get {ds : List D} {os : List Ob} {i : Nat} (h : (st0 ds os).get i ≠ .undef) : ds[i]? = some ((st0 ds os).get i) := by
  match ds, i with
  | [], 0 | [], 1 | [], 2 | [], 3 | [], 4 | [], 5 | [], 6 | [], 7 | [], 8 | [], 9 | [], 10 | [], 11 | [], _ + 12 => exact absurd rfl h
  | [_], 0 => rfl
  | [_], 1 | [_], 2 | [_], 3 | [_], 4 | [_], 5 | [_], 6 | [_], 7 | [_], 8 | [_], 9 | [_], 10 | [_], 11 | [_], _ + 12 => exact absurd rfl h
  | [_, _], 0 | [_, _], 1 => rfl
  | [_, _], 2 | [_, _], 3 | [_, _], 4 | [_, _], 5 | [_, _], 6 | [_, _], 7 | [_, _], 8 | [_, _], 9 | [_, _], 10 | [_, _], 11 | [_, _], _ + 12 => exact absurd rfl h
  | [_, _, _], 0 | [_, _, _], 1 | [_, _, _], 2 => rfl
  | [_, _, _], 3 | [_, _, _], 4 | [_, _, _], 5 | [_, _, _], 6 | [_, _, _], 7 | [_, _, _], 8 | [_, _, _], 9 | [_, _, _], 10 | [_, _, _], 11 | [_, _, _], _ + 12 => exact absurd rfl h
  | [_, _, _, _], 0 | [_, _, _, _], 1 | [_, _, _, _], 2 | [_, _, _, _], 3 => rfl
  | [_, _, _, _], 4 | [_, _, _, _], 5 | [_, _, _, _], 6 | [_, _, _, _], 7 | [_, _, _, _], 8 | [_, _, _, _], 9 | [_, _, _, _], 10 | [_, _, _, _], 11 | [_, _, _, _], _ + 12 => exact absurd rfl h
  | [_, _, _, _, _], 0 | [_, _, _, _, _], 1 | [_, _, _, _, _], 2 | [_, _, _, _, _], 3 | [_, _, _, _, _], 4 => rfl
  | [_, _, _, _, _], 5 | [_, _, _, _, _], 6 | [_, _, _, _, _], 7 | [_, _, _, _, _], 8 | [_, _, _, _, _], 9 | [_, _, _, _, _], 10 | [_, _, _, _, _], 11 | [_, _, _, _, _], _ + 12 => exact absurd rfl h
  | _ :: _ :: _ :: _ :: _ :: _ :: _, 0 | _ :: _ :: _ :: _ :: _ :: _ :: _, 1 | _ :: _ :: _ :: _ :: _ :: _ :: _, 2 | _ :: _ :: _ :: _ :: _ :: _ :: _, 3 | _ :: _ :: _ :: _ :: _ :: _ :: _, 4 | _ :: _ :: _ :: _ :: _ :: _ :: _, 5 => rfl
  | _ :: _ :: _ :: _ :: _ :: _ :: _, 6 | _ :: _ :: _ :: _ :: _ :: _ :: _, 7 | _ :: _ :: _ :: _ :: _ :: _ :: _, 8 | _ :: _ :: _ :: _ :: _ :: _ :: _, 9 | _ :: _ :: _ :: _ :: _ :: _ :: _, 10 | _ :: _ :: _ :: _ :: _ :: _ :: _, 11 | _ :: _ :: _ :: _ :: _ :: _ :: _, _ + 12 => exact absurd rfl h

theorem out_inv {α : Type} {r : RS} {z t : α} {k : D → St → α} (h : r.out z k = t) (hz : z ≠ t) : (∃ σ, r = .nx σ ∧ k .none σ = t) ∨ ∃ d σ, r = .rt d σ ∧ k d σ = t := by
  cases r with
  | no => exact absurd h hz
  | bk _ => exact absurd h hz
  | nx σ => exact .inl ⟨σ, rfl, h⟩
  | rt d σ => exact .inr ⟨d, σ, rfl, h⟩

section
variable {G : GE} {F : FC} {n : Nat} {b : Addr} {params : Arguments} {body : List Stmt} {bm : SM} {k : Nat}
theorem callOk_of (hG : GOk G) (hF : F.Ok) (hfn : FnAt G b F.name params body F.scope) (hb : OkB G F n body bm) (hk : k ≤ F.names.length)
    (hbind : ∀ pm cd doc (vs : List Value), vs.length = k → bindArgs (Calls.docDef F.name params body F.scope pm cd doc) ⟨vs, []⟩ = pure ((F.names.take vs.length).zip vs))
    (hcell : ∀ x ∈ F.scope.names, x.2 ≠ .cell) (hco : F.scope.isCoroutine = false) (hgen : F.scope.isGenerator = false) : CallOk G (n + 1) b (runF k bm) := by
  obtain ⟨o, pm, cd, doc, ho, hdat, hcr⟩ := hfn.ex
  refine ⟨⟨o, _, ho, hdat⟩, fun {A K P s vs ds d} hA hp hd h => ?_⟩
  obtain ⟨hlen, h1⟩ := onB_inv h nofun
  rw [len_eq, Nat.beq_eq] at hlen
  have hlv : vs.length = k := hd.length.symm.trans hlen
  have hroom : A.depth < recursionLimit := by
    have h1 : recursionLimit = 1000 := rfl
    have := hA.2.1
    omega
  have hne : bm (st0 ds []) ≠ .no := fun q => by rw [q] at h1; cases h1
  refine wpAny_call (call_plain_ret hroom (hp.stays _ _ ho) hdat (hG.nolimit.keeps hp.stays) (hcr.keeps hp.stays) (hbind pm cd doc vs hlv) (fun x hx => ?_) (fun h₁ Fr₁ => ?_) hco hgen hF.kind hcell)
  · obtain ⟨h3, _⟩ := List.of_mem_zip hx
    exact (hF.loc x.1 (List.mem_of_mem_take h3)).1
  · have R : Rel G F.names P s.heap.objs.size K [] (st0 ds []) (fun x => ((F.names.take vs.length).zip vs).reverse.lookup x) { s with heap := h₁, toks := s.toks + ((F.names.take vs.length).zip vs).length } := by
      refine ⟨hp.ext Fr₁.keep, Fr₁.ns, hp.freshK (Nat.le_refl _), hp.freshP (Nat.le_refl _), fun i x e q => ?_, (by rw [st0_objs]; rfl), (fun i ob c e _ => by rw [st0_objs] at e; cases e), fun i j c e _ => by cases e⟩
      have e1 := st0_get q
      obtain ⟨v, e2, e3⟩ := hd.get e1
      exact ⟨v, binds_get hF.nd (by omega) e e2, .d e3⟩
    refine wpAny_mono (hb (hA.deeper _) R hne) (fun f s' ⟨K', ρ', m', σ', x', R', hs', q⟩ => ?_) fun _ _ x => x
    have hs2 := (Same.of s h₁ _).trans hs'
    rcases q with ⟨e, rfl⟩ | ⟨e, rfl⟩ | ⟨d', v, e, rfl, hv⟩ <;> rw [e] at h1
    · cases h1
      exact ⟨K', x'.k, R'.hp, .none, hs2⟩
    · cases h1
    · cases h1
      exact ⟨K', x'.k, R'.hp, hv, hs2⟩
theorem refOk_of (hG : GOk G) (hF : F.Ok) (hfn : FnAt G b F.name params body F.scope) (hb : OkB G F n body bm) (hk : k + 1 ≤ F.names.length)
    (hbind : ∀ pm cd doc (vs : List Value), vs.length = k + 1 → bindArgs (Calls.docDef F.name params body F.scope pm cd doc) ⟨vs, []⟩ = pure ((F.names.take vs.length).zip vs))
    (hcell : ∀ x ∈ F.scope.names, x.2 ≠ .cell) (hco : F.scope.isCoroutine = false) (hgen : F.scope.isGenerator = false) : RefOk G (n + 1) b (runR k bm) := by
  obtain ⟨o, pm, cd, doc, ho, hdat, hcr⟩ := hfn.ex
  refine ⟨⟨o, _, ho, hdat⟩, fun {A K P s l xs us q vs ds ys d} hA hp hl hxs hsz hkl hpl hd h => ?_⟩
  obtain ⟨hlen, h1⟩ := onB_inv h nofun
  rw [len_eq, Nat.beq_eq] at hlen
  have hlv : (Value.ref l :: vs).length = k + 1 := by rw [List.length_cons, ← hd.length, hlen]
  have hroom : A.depth < recursionLimit := by
    have h1 : recursionLimit = 1000 := rfl
    have := hA.2.1
    omega
  have hne : bm (st0 (.ref 0 :: ds) [.ow xs]) ≠ .no := fun q => by rw [q] at h1; cases h1
  have hllt : l < s.heap.objs.size := Heap.lt_size hl
  refine wpAny_call (call_plain_ret hroom (hp.stays _ _ ho) hdat (hG.nolimit.keeps hp.stays) (hcr.keeps hp.stays) (hbind pm cd doc _ hlv) (fun x hx => ?_) (fun h₁ Fr₁ => ?_) hco hgen hF.kind hcell)
  · obtain ⟨h3, _⟩ := List.of_mem_zip hx
    exact (hF.loc x.1 (List.mem_of_mem_take h3)).1
  · have R : Rel G F.names P s.heap.objs.size K [l] (st0 (.ref 0 :: ds) [.ow xs]) (fun x => ((F.names.take (Value.ref l :: vs).length).zip (Value.ref l :: vs)).reverse.lookup x) { s with heap := h₁, toks := s.toks + ((F.names.take (Value.ref l :: vs).length).zip (Value.ref l :: vs)).length } := by
      refine ⟨hp.ext Fr₁.keep, Fr₁.ns, hp.freshK (Nat.le_refl _), hp.freshP (Nat.le_refl _), fun i x e z => ?_, (by rw [st0_objs]; rfl), fun i ob c e r => ?_, fun i j c e r => ?_⟩
      · have e1 := st0_get z
        cases i with
        | zero =>
          have e2 : D.ref 0 = (st0 (.ref 0 :: ds) [.ow xs]).get 0 := Option.some.inj e1
          exact ⟨.ref l, binds_get hF.nd (by omega) e rfl, e2 ▸ .ref rfl⟩
        | succ i =>
          obtain ⟨v, e2, e3⟩ := hd.get (i := i) e1
          exact ⟨v, binds_get hF.nd (by omega) e e2, .d e3⟩
      · rw [st0_objs] at e
        cases i with
        | zero =>
          cases e
          cases r
          exact ⟨hsz, ⟨us, q, Fr₁.keep _ _ hl, hxs⟩, nofun, fun _ _ => ⟨hkl, hpl, Nat.ne_of_lt hllt⟩⟩
        | succ i => cases e
      · cases i with
        | zero => cases j with
          | zero => rfl
          | succ j => cases r
        | succ i => cases e
    refine wpAny_mono (hb (hA.deeper _) R hne) (fun f s' ⟨K', ρ', m', σ', x', R', hs', q⟩ => ?_) fun _ _ x => x
    have hs2 := (Same.of s h₁ _).trans hs'
    have key : ∀ {d' : D} {v : Value}, (nthK σ'.objs 0 RO.no fun o => o.onO RO.no fun ys => RO.ok (d', ys)) = RO.ok (d, ys) → DR G.fa K' d' v →
        ∃ K' ws q', K.le K' ∧ Hp G K' P s'.heap ∧ s'.heap.get? l = some (lobj ws q') ∧ DL G.fa K' ys ws ∧ ys.length ≤ 1000 ∧ K' l = none ∧ DR G.fa K' d v ∧ Same s s' := by
      intro d' v h2 hv
      obtain ⟨ob, e1, h3⟩ := nthK_inv h2 nofun
      obtain ⟨zs, rfl, h4⟩ := Ob.onO_inv h3 nofun
      cases h4
      have r : ρ'[0]? = some l := by
        obtain ⟨t, e⟩ := x'.r
        rw [← e]; rfl
      have X := R'.objs 0 _ l e1 r
      obtain ⟨ws, q', hw, hy⟩ := X.at'
      exact ⟨K', ws, q', x'.k, R'.hp, hw, hy, X.size, (X.ow _ rfl).1, hv, hs2⟩
    rcases q with ⟨e, rfl⟩ | ⟨e, rfl⟩ | ⟨d', v, e, rfl, hv⟩ <;> rw [e] at h1
    · exact key h1 .none
    · cases h1
    · exact key h1 hv
end
end Goo
end
-- GTup
section
open PySem PyProof.Rows PySem.SeqAt
set_option maxRecDepth 100000
namespace Goo
open AutoSeq1 (wpAny_loadPart')
open MeetsSeq MeetsSeq2 MeetsSeq3 SeqRoads2
def LtAt (A : Around) (s : Shared) (y x : Value) (b : Bool) : Prop :=
  ∀ (prog : Program) (w : World) (E : Value → Shared → Prop) (Q : Value → Shared → Prop), Q (.bool b) s → wpAny (model prog w) A (richCompare .Lt y x) Q E s
/-- two rows: alike up to a place, and what is there -/
structure Cut (A : Around) (s : Shared) (vs us : Array Value) (p : Nat) : Prop where
  le1 : p ≤ vs.size
  le2 : p ≤ us.size
  same : ∀ j (h1 : j < vs.size) (h2 : j < us.size), j < p → EqAt A s vs[j] us[j] true
def CutEnd (A : Around) (s : Shared) (vs us : Array Value) (p c : Nat) : Prop :=
  (p = vs.size ∧ p = us.size ∧ c = 0) ∨ (p = vs.size ∧ p < us.size ∧ c = 1) ∨ (p < vs.size ∧ p = us.size ∧ c = 2) ∨ ∃ (h1 : p < vs.size) (h2 : p < us.size), EqAt A s vs[p] us[p] false ∧ LtAt A s vs[p] us[p] (c == 1) ∧ c ≠ 0

theorem tuple_eqP (l b : Addr) (items items2 : Array Value) (n n2 p c : Nat) :
    Meets (Builtin.«tuple.__eq__» ⟨[.ref l, .ref b], []⟩)
      (fun A R s => s.heap.get? l = some { cls := .type "tuple", dict := none, data := .seq items n, slots := #[] } ∧ s.heap.get? b = some { cls := .type "tuple", dict := none, data := .seq items2 n2, slots := #[] } ∧
        Cut A.in1 s items items2 p ∧ CutEnd A.in1 s items items2 p c ∧ R (.ok (.ret (.bool (c == 0)))) s) :=
  .of_wp fun prog w A R s h => by
    obtain ⟨hp, g, d, tk, os⟩ := s; obtain ⟨hl, hb, hc, he, h⟩ := h
    have f2 := AutoSeq1.sub_tuple_tuple
    have hZ : (items.toList.zip items2.toList).length = min items.size items2.size := by simp
    wp_walk using wpAny_loadPart' hl, wpAny_loadPart' hb, wpAny_forIn_list _ (fun rest b s' => b.1 = none ∧ s' = ⟨hp, g, d, tk, os⟩ ∧ ∃ i, i ≤ p ∧ rest = (items.toList.zip items2.toList).drop i) _
    case turn =>
      rintro ⟨y, x⟩ rest b s' ⟨hb', rfl, i, hip, hz⟩
      have hlt : i < (items.toList.zip items2.toList).length := by
        rcases Nat.lt_or_ge i (items.toList.zip items2.toList).length with h' | h'
        · exact h'
        · rw [List.drop_of_length_le h'] at hz; cases hz
      have hm : i < min items.size items2.size := hZ ▸ hlt
      have h1 : i < items.size := Nat.lt_of_lt_of_le hm (Nat.min_le_left _ _)
      have h2 : i < items2.size := Nat.lt_of_lt_of_le hm (Nat.min_le_right _ _)
      rw [List.drop_eq_getElem_cons hlt] at hz
      injection hz with hyx hrest
      have hy : y = items[i] := by have := congrArg Prod.fst hyx; simpa using this
      have hx : x = items2[i] := by have := congrArg Prod.snd hyx; simpa using this
      subst hy hx
      by_cases hi : i < p
      · refine wpAny_bind (hc.same i h1 h2 hi prog w _ _ ?_)
        wp_walk
        exact ⟨rfl, rfl, i + 1, hi, hrest⟩
      · have hpi : i = p := by omega
        subst hpi
        rcases he with ⟨e1, _⟩ | ⟨e1, _⟩ | ⟨_, e1, _⟩ | ⟨_, _, e1, e2, e3⟩
        · omega
        · omega
        · omega
        · refine wpAny_bind (e1 prog w _ _ ?_)
          wp_walk
          refine ⟨_, rfl, ?_⟩
          rw [show (c == 0) = false from beq_eq_false_iff_ne.mpr e3] at h
          exact h
    case fin =>
      rintro ⟨b1, b2⟩ s' ⟨hb', rfl, i, hip, hz⟩
      simp only at hb'
      subst hb'
      have hge : min items.size items2.size ≤ i := by
        rcases Nat.lt_or_ge i (items.toList.zip items2.toList).length with h' | h'
        · rw [List.drop_eq_getElem_cons h'] at hz; cases hz
        · exact hZ ▸ h'
      have q1 := hc.le1
      have q2 := hc.le2
      wp_walk
      refine ⟨_, rfl, ?_⟩
      have : (items.size == items2.size) = (c == 0) := by
        rcases he with ⟨e1, e2, e3⟩ | ⟨e1, e2, e3⟩ | ⟨e1, e2, e3⟩ | ⟨e1, e2, _⟩
        · rw [e3, ← e1, ← e2]; simp
        · rw [e3]
          show _ = false
          rw [beq_eq_false_iff_ne]; omega
        · rw [e3]
          show _ = false
          rw [beq_eq_false_iff_ne]; omega
        · omega
      simpa [Builtin.Tuple.tupleCompareSizes, this] using h
    case h =>
      exact ⟨rfl, rfl, 0, Nat.zero_le _, rfl⟩

theorem tuple_ltP (l b : Addr) (items items2 : Array Value) (n n2 p c : Nat) :
    Meets (Builtin.«tuple.__lt__» ⟨[.ref l, .ref b], []⟩)
      (fun A R s => s.heap.get? l = some { cls := .type "tuple", dict := none, data := .seq items n, slots := #[] } ∧ s.heap.get? b = some { cls := .type "tuple", dict := none, data := .seq items2 n2, slots := #[] } ∧
        Cut A.in1 s items items2 p ∧ CutEnd A.in1 s items items2 p c ∧ R (.ok (.ret (.bool (c == 1)))) s) :=
  .of_wp fun prog w A R s h => by
    obtain ⟨hp, g, d, tk, os⟩ := s; obtain ⟨hl, hb, hc, he, h⟩ := h
    have f2 := AutoSeq1.sub_tuple_tuple
    have hZ : (items.toList.zip items2.toList).length = min items.size items2.size := by simp
    wp_walk using wpAny_loadPart' hl, wpAny_loadPart' hb, wpAny_forIn_list _ (fun rest b s' => b.1 = none ∧ s' = ⟨hp, g, d, tk, os⟩ ∧ ∃ i, i ≤ p ∧ rest = (items.toList.zip items2.toList).drop i) _
    case turn =>
      rintro ⟨y, x⟩ rest b s' ⟨hb', rfl, i, hip, hz⟩
      have hlt : i < (items.toList.zip items2.toList).length := by
        rcases Nat.lt_or_ge i (items.toList.zip items2.toList).length with h' | h'
        · exact h'
        · rw [List.drop_of_length_le h'] at hz; cases hz
      have hm : i < min items.size items2.size := hZ ▸ hlt
      have h1 : i < items.size := Nat.lt_of_lt_of_le hm (Nat.min_le_left _ _)
      have h2 : i < items2.size := Nat.lt_of_lt_of_le hm (Nat.min_le_right _ _)
      rw [List.drop_eq_getElem_cons hlt] at hz
      injection hz with hyx hrest
      have hy : y = items[i] := by have := congrArg Prod.fst hyx; simpa using this
      have hx : x = items2[i] := by have := congrArg Prod.snd hyx; simpa using this
      subst hy hx
      by_cases hi : i < p
      · refine wpAny_bind (hc.same i h1 h2 hi prog w _ _ ?_)
        wp_walk
        exact ⟨rfl, rfl, i + 1, hi, hrest⟩
      · have hpi : i = p := by omega
        subst hpi
        rcases he with ⟨e1, _⟩ | ⟨e1, _⟩ | ⟨_, e1, _⟩ | ⟨_, _, e1, e2, e3⟩
        · omega
        · omega
        · omega
        · refine wpAny_bind (e1 prog w _ _ ?_)
          simp only [Bool.not_false, if_true]
          refine wpAny_bind (wpAny_rule (wpAny_bind (e2 prog w _ _ ?_)))
          wp_walk
          exact ⟨_, rfl, h⟩
    case fin =>
      rintro ⟨b1, b2⟩ s' ⟨hb', rfl, i, hip, hz⟩
      simp only at hb'
      subst hb'
      have hge : min items.size items2.size ≤ i := by
        rcases Nat.lt_or_ge i (items.toList.zip items2.toList).length with h' | h'
        · rw [List.drop_eq_getElem_cons h'] at hz; cases hz
        · exact hZ ▸ h'
      have q1 := hc.le1
      have q2 := hc.le2
      wp_walk
      refine ⟨_, rfl, ?_⟩
      have : decide (items.size < items2.size) = (c == 1) := by
        rcases he with ⟨e1, e2, e3⟩ | ⟨e1, e2, e3⟩ | ⟨e1, e2, e3⟩ | ⟨e1, e2, _⟩
        · rw [e3]
          show _ = false
          rw [decide_eq_false_iff_not]; omega
        · rw [e3]
          show _ = true
          rw [decide_eq_true_eq]; omega
        · rw [e3]
          show _ = false
          rw [decide_eq_false_iff_not]; omega
        · omega
      simpa [Builtin.Tuple.tupleCompareSizes, this] using h
    case h =>
      exact ⟨rfl, rfl, 0, Nat.zero_le _, rfl⟩

theorem tup_rc {A : Around} {s : Shared} {l b : Addr} {vs us : List Value} {n n2 p c : Nat} (hl : s.heap.get? l = some (tobj vs n)) (hb : s.heap.get? b = some (tobj us n2)) (hu : A.units < cLine)
    (hc : Cut A.in1 s vs.toArray us.toArray p) (he : CutEnd A.in1 s vs.toArray us.toArray p c) : RcAt A s (.ref l) (.ref b) (c == 0) ∧ LtAt A s (.ref l) (.ref b) (c == 1) := by
  refine ⟨fun prog w E Q h => ?_, fun prog w E Q h => ?_⟩
  · exact richCompare_meets_room (op := .Eq) ⟨_, hl, rfl⟩ ⟨_, hb, rfl⟩ PySem.F.slot_tuple_eq PySem.F.entry_tuple_eq (PySem.F.args_tuple_eq_2 _ _) (tuple_eqP l b vs.toArray us.toArray n n2 p c)
      ⟨hl, hb, hc, he, show Value.bool (c == 0) ≠ Value.notImplemented ∧ Q (.bool (c == 0)) s from ⟨(fun x => nomatch x), h⟩⟩ hu
  · exact richCompare_meets_room (op := .Lt) ⟨_, hl, rfl⟩ ⟨_, hb, rfl⟩ PySem.F.slot_tuple_lt PySem.F.entry_tuple_lt (PySem.F.args_tuple_lt_2 _ _) (tuple_ltP l b vs.toArray us.toArray n n2 p c)
      ⟨hl, hb, hc, he, show Value.bool (c == 1) ≠ Value.notImplemented ∧ Q (.bool (c == 1)) s from ⟨(fun x => nomatch x), h⟩⟩ hu
theorem lt_ints {A : Around} {s : Shared} (a b : Int) (t u : Tok) : LtAt A s (.int a t) (.int b u) (decide (a < b)) := fun prog w E Q h => lt_int h
theorem toArray_inj' {α : Type} {xs ys : List α} (h : xs.toArray = ys.toArray) : xs = ys := by
  have := congrArg Array.toList h
  simpa using this
theorem cmpT_succ (n : Nat) (xs ys : List D) : cmpT (n + 1) xs ys = List.casesOn (motive := fun _ => RO Nat) xs (List.casesOn (motive := fun _ => RO Nat) ys (.ok 0) fun _ _ => .ok 1) fun x r =>
  List.casesOn (motive := fun _ => RO Nat) ys (.ok 2) fun y t =>
    x.onI (x.onT .no fun x => y.onT .no fun y => (cmpT n x y).el .no fun c => onNat c (cmpT n r t) fun _ => .ok c)
      fun x => y.onI .no fun y => onB (zeq x y) (cmpT n r t) (onB (zlt x y) (.ok 1) (.ok 2)) := rfl
/-- what the first two items say -/
theorem cmpT_cons {n : Nat} {x y : D} {r t : List D} {c : Nat} (h : cmpT (n + 1) (x :: r) (y :: t) = .ok c) :
    (∃ i j, x = .int i ∧ y = .int j ∧ ((i = j ∧ cmpT n r t = .ok c) ∨ (i < j ∧ c = 1) ∨ (j < i ∧ c = 2))) ∨
    ∃ xs ys, x = .tup xs ∧ y = .tup ys ∧ ((cmpT n xs ys = .ok 0 ∧ cmpT n r t = .ok c) ∨ (cmpT n xs ys = .ok c ∧ c ≠ 0)) := by
  rw [cmpT_succ] at h
  have h : (x.onI (x.onT .no fun x => y.onT .no fun y => (cmpT n x y).el .no fun c => onNat c (cmpT n r t) fun _ => .ok c)
      fun x => y.onI .no fun y => onB (zeq x y) (cmpT n r t) (onB (zlt x y) (.ok 1) (.ok 2))) = RO.ok c := h
  rcases D.onI_cases x (x.onT RO.no fun x => y.onT RO.no fun y => (cmpT n x y).el RO.no fun c => onNat c (cmpT n r t) fun _ => RO.ok c) (fun x => y.onI RO.no fun y => onB (zeq x y) (cmpT n r t) (onB (zlt x y) (RO.ok 1) (RO.ok 2))) with ⟨i, rfl, e⟩ | ⟨_, e⟩
  · rw [e] at h
    obtain ⟨j, rfl, h1⟩ := D.onI_inv h nofun
    refine .inl ⟨i, j, rfl, rfl, ?_⟩
    rw [onB_eq, onB_eq, zeq_eq, zlt_eq] at h1
    by_cases q : i = j
    · simp only [q, decide_true, if_true] at h1; exact .inl ⟨q, h1⟩
    · by_cases q2 : i < j
      · simp only [q, q2, decide_true, decide_false, if_true, Bool.false_eq_true, if_false] at h1; cases h1; exact .inr (.inl ⟨q2, rfl⟩)
      · simp only [q, q2, decide_false, Bool.false_eq_true, if_false] at h1; cases h1; exact .inr (.inr ⟨by omega, rfl⟩)
  · rw [e] at h
    obtain ⟨xs, rfl, h1⟩ := D.onT_inv h nofun
    obtain ⟨ys, rfl, h2⟩ := D.onT_inv h1 nofun
    obtain ⟨c', h3, h4⟩ := RO.inv h2 nofun
    refine .inr ⟨xs, ys, rfl, rfl, ?_⟩
    cases c' with
    | zero => exact .inl ⟨h3, h4⟩
    | succ k => cases h4; exact .inr ⟨h3, nofun⟩
theorem cmpT_same {fa : Nat → Addr} {K : KM} : ∀ {n : Nat} {xs ys : List D} {vs : List Value} {c : Nat}, cmpT n xs ys = .ok c → DL fa K xs vs → DL fa K ys vs → c = 0 := by
  intro n
  induction n with
  | zero => intro xs ys vs c h; cases h
  | succ n ih =>
    intro xs ys vs c h hx hy
    cases hx with
    | nil => cases hy; cases h; rfl
    | cons p1 q1 =>
      cases hy with
      | cons p2 q2 =>
        rcases cmpT_cons h with ⟨i, j, rfl, rfl, h1⟩ | ⟨xs, ys, rfl, rfl, h1⟩
        · cases p1; cases p2
          rcases h1 with ⟨_, h2⟩ | ⟨h2, _⟩ | ⟨h2, _⟩
          · exact ih h2 q1 q2
          · omega
          · omega
        · cases p1 with
          | tup k1 l1 d1 =>
            cases p2 with
            | tup k2 l2 d2 =>
              rw [k1] at k2
              injection k2 with k2
              injection k2 with _ _ k2
              injection k2 with k2
              have := toArray_inj' k2
              subst this
              rcases h1 with ⟨_, h2⟩ | ⟨h2, h3⟩
              · exact ih h2 q1 q2
              · exact absurd (ih h2 d1 d2) h3
theorem cut_cons {A : Around} {s : Shared} {v u : Value} {vs us : List Value} {p c : Nat} (h0 : EqAt A s v u true) (hc : Cut A s vs.toArray us.toArray p) (he : CutEnd A s vs.toArray us.toArray p c) :
    Cut A s (v :: vs).toArray (u :: us).toArray (p + 1) ∧ CutEnd A s (v :: vs).toArray (u :: us).toArray (p + 1) c := by
  have l1 := hc.le1
  have l2 := hc.le2
  simp only [List.size_toArray] at l1 l2
  refine ⟨⟨by simp; omega, by simp; omega, fun j h1 h2 hj => ?_⟩, ?_⟩
  · cases j with
    | zero => simpa using h0
    | succ j => exact hc.same j (by simpa using h1) (by simpa using h2) (by omega)
  · rcases he with ⟨e1, e2, e3⟩ | ⟨e1, e2, e3⟩ | ⟨e1, e2, e3⟩ | ⟨e1, e2, e3, e4, e5⟩
    · exact .inl ⟨by simp at e1 ⊢; omega, by simp at e2 ⊢; omega, e3⟩
    · exact .inr (.inl ⟨by simp at e1 ⊢; omega, by simp at e2 ⊢; omega, e3⟩)
    · exact .inr (.inr (.inl ⟨by simp at e1 ⊢; omega, by simp at e2 ⊢; omega, e3⟩))
    · exact .inr (.inr (.inr ⟨by simp at e1 ⊢; omega, by simp at e2 ⊢; omega, by simpa using e3, by simpa using e4, e5⟩))
theorem cut_of {fa : Nat → Addr} {K : KM} {s : Shared} (hK : ∀ b o, K b = some o → s.heap.get? b = some o) : ∀ (n : Nat) {A : Around} {xs ys : List D} {vs us : List Value} {c : Nat}, A.units + n < cLine → cmpT n xs ys = .ok c → DL fa K xs vs → DL fa K ys us →
    ∃ p, Cut A s vs.toArray us.toArray p ∧ CutEnd A s vs.toArray us.toArray p c := by
  intro n
  induction n with
  | zero => intro A xs ys vs us c _ h; cases h
  | succ n ih =>
    intro A xs ys vs us c hu h hx hy
    cases hx with
    | nil =>
      cases hy with
      | nil => cases h; exact ⟨0, ⟨Nat.zero_le _, Nat.zero_le _, fun _ _ _ q => absurd q (Nat.not_lt_zero _)⟩, .inl ⟨rfl, rfl, rfl⟩⟩
      | cons _ _ => cases h; exact ⟨0, ⟨Nat.zero_le _, Nat.zero_le _, fun _ _ _ q => absurd q (Nat.not_lt_zero _)⟩, .inr (.inl ⟨rfl, by simp, rfl⟩)⟩
    | @cons x v r vs p1 q1 =>
      cases hy with
      | nil => cases h; exact ⟨0, ⟨Nat.zero_le _, Nat.zero_le _, fun _ _ _ q => absurd q (Nat.not_lt_zero _)⟩, .inr (.inr (.inl ⟨by simp, rfl, rfl⟩))⟩
      | @cons y u t us p2 q2 =>
        have tail : EqAt A s v u true → cmpT n r t = .ok c → ∃ p, Cut A s (v :: vs).toArray (u :: us).toArray p ∧ CutEnd A s (v :: vs).toArray (u :: us).toArray p c := fun h0 h2 => by
          obtain ⟨p, c1, c2⟩ := ih (A := A) (by omega) h2 q1 q2
          exact ⟨p + 1, cut_cons h0 c1 c2⟩
        have here : ∀ {c : Nat}, EqAt A s v u false → LtAt A s v u (c == 1) → c ≠ 0 → ∃ p, Cut A s (v :: vs).toArray (u :: us).toArray p ∧ CutEnd A s (v :: vs).toArray (u :: us).toArray p c := fun h0 h1 h2 =>
          ⟨0, ⟨Nat.zero_le _, Nat.zero_le _, fun _ _ _ q => absurd q (Nat.not_lt_zero _)⟩, .inr (.inr (.inr ⟨by simp, by simp, by simpa using h0, by simpa using h1, h2⟩))⟩
        rcases cmpT_cons h with ⟨i, j, rfl, rfl, h1⟩ | ⟨xs, ys, rfl, rfl, h1⟩
        · cases p1 with | int _ t1 =>
          cases p2 with | int _ t2 =>
          rcases h1 with ⟨rfl, h2⟩ | ⟨h2, rfl⟩ | ⟨h2, rfl⟩
          · refine tail ?_ h2
            have := EqAt.int_int (A := A) (s := s) i t1 i t2
            rwa [show (i == i) = true by simp] at this
          · refine here ?_ ?_ nofun
            · have := EqAt.int_int (A := A) (s := s) i t1 j t2
              rwa [show (i == j) = false by rw [beq_eq_false_iff_ne]; omega] at this
            · have := lt_ints (A := A) (s := s) i j t1 t2
              rwa [decide_eq_true h2] at this
          · refine here ?_ ?_ nofun
            · have := EqAt.int_int (A := A) (s := s) i t1 j t2
              rwa [show (i == j) = false by rw [beq_eq_false_iff_ne]; omega] at this
            · have := lt_ints (A := A) (s := s) i j t1 t2
              rwa [decide_eq_false (by omega)] at this
        · cases p1 with
          | @tup a1 ws1 m1 _ k1 l1 d1 =>
            cases p2 with
            | @tup a2 ws2 m2 _ k2 l2 d2 =>
              have both : ∀ {c' : Nat}, cmpT n xs ys = .ok c' → (a1 = a2 → c' = 0) ∧ RcAt A s (.ref a1) (.ref a2) (c' == 0) ∧ LtAt A s (.ref a1) (.ref a2) (c' == 1) := fun h2 => by
                obtain ⟨p, c1, c2⟩ := ih (A := A.in1) (by show A.units + 1 + n < cLine; omega) h2 d1 d2
                refine ⟨fun q => ?_, tup_rc (hK _ _ k1) (hK _ _ k2) (by omega) c1 c2⟩
                subst q
                rw [k1] at k2
                injection k2 with k2
                injection k2 with _ _ k2
                injection k2 with k2
                have := toArray_inj' k2
                subst this
                exact cmpT_same h2 d1 d2
              rcases h1 with ⟨h2, h3⟩ | ⟨h2, h3⟩
              · refine tail ?_ h3
                by_cases q : a1 = a2
                · subst q; exact .same _
                · exact .of_refs q (both h2).2.1
              · have hne : a1 ≠ a2 := fun q => h3 ((both h2).1 q)
                obtain ⟨_, e1, e2⟩ := both h2
                rw [show (c == 0) = false from beq_eq_false_iff_ne.mpr h3] at e1
                exact here (.of_refs hne e1) e2 h3
section
variable {G : GE} {F : FC} {n : Nat}
theorem c_lt : OkC G F n (compareOp .Lt) cLt := by
  intro A L K P ρ σ m s x y u v c hA R hx hy h
  unfold cLt at h
  rcases D.onI_cases x (x.onT RO.no fun x => y.onT RO.no fun y => (cmpT 100 x y).el RO.no fun c => RO.ok (Nat.beq c 1)) (fun x => y.onI RO.no fun y => RO.ok (zlt x y)) with ⟨i, rfl, e⟩ | ⟨_, e⟩
  · rw [e] at h
    obtain ⟨j, rfl, h1⟩ := D.onI_inv h nofun
    cases h1
    obtain ⟨t, rfl⟩ := hx.int
    obtain ⟨t', rfl⟩ := hy.int
    exact lt_int ⟨by rw [zlt_eq], R, .refl s⟩
  · rw [e] at h
    obtain ⟨xs, rfl, h1⟩ := D.onT_inv h nofun
    obtain ⟨ys, rfl, h2⟩ := D.onT_inv h1 nofun
    obtain ⟨c', h3, h4⟩ := RO.inv h2 nofun
    cases h4
    obtain ⟨a, vs, q, rfl, ha, _, hd⟩ := hx.tup
    obtain ⟨b, us, q', rfl, hb, _, hd'⟩ := hy.tup
    have hu := units_ok hA (k := 200) (by decide)
    obtain ⟨p, c1, c2⟩ := cut_of R.hp.keepK 100 (A := A.in1) (by show A.units + 1 + 100 < cLine; omega) h3 hd hd'
    exact (tup_rc (R.hp.keepK _ _ ha) (R.hp.keepK _ _ hb) (by omega) c1 c2).2 G.prog G.w _ _ ⟨by rw [show (c' == 1) = Nat.beq c' 1 by rw [Bool.eq_iff_iff, beq_iff_eq, Nat.beq_eq]], R, .refl s⟩
end
end Goo
end
-- GSnd
section
open PySem PyProof.Rows
set_option maxRecDepth 100000
namespace Goo
def fdOf (i : Nat) : Stmt := (PySem.Challenge.pw_xm0431_01.main.body.drop i).headD (.Pass ⟨0, 0, 0, 0⟩)
def nameOf : Stmt → Str
  | .FunctionDef x _ _ _ _ _ _ _ _ _ => x
  | _ => ""
def bodyOf : Stmt → List Stmt
  | .FunctionDef _ _ b _ _ _ _ _ _ _ => b
  | _ => []
def scopeOf : Stmt → Scope
  | .FunctionDef _ _ _ _ _ _ s _ _ _ => s
  | _ => { kind := .module, names := [], isGenerator := false, isCoroutine := false }
def paramsOf : Stmt → Arguments
  | .FunctionDef _ a _ _ _ _ _ _ _ _ => a
  | _ => { posonlyargs := [], args := [], vararg := none, kwonlyargs := [], kw_defaults := [], kwarg := none, defaults := [] }
def ixs : List Nat := [4, 5, 6, 7, 8, 9, 10, 11, 12, 13, 14, 16, 17, 18, 19, 20, 21, 22, 23, 25, 27, 28, 29, 30, 31, 32, 33, 35, 36, 37, 38, 39, 40, 41]
structure GAll (G : GE) : Prop where
  ok : GOk G
  all : ∀ i ∈ ixs, FnAt G (G.fa (i + 2)) (nameOf (fdOf i)) (paramsOf (fdOf i)) (bodyOf (fdOf i)) (scopeOf (fdOf i)) ∧ G.mg (nameOf (fdOf i)) = some (.ref (G.fa (i + 2)))
  f0 : G.fa 29 = G.fa 0
  f1 : G.fa 35 = G.fa 1
theorem FnAt.none {G : GE} {b : Addr} {name : Str} {params : Arguments} {body : List Stmt} {scope : Scope} (h : FnAt G b name params body scope) {n : Nat} : CallOk G n b (fun _ => .no) := by
  obtain ⟨o, pm, cd, doc, h1, h2, _⟩ := h.ex
  exact ⟨⟨o, _, h1, h2⟩, fun _ _ _ h => by cases h⟩
theorem GAll.at {G : GE} (h : GAll G) (i : Nat) (hi : i ∈ ixs := by decide) : FnAt G (G.fa (i + 2)) (nameOf (fdOf i)) (paramsOf (fdOf i)) (bodyOf (fdOf i)) (scopeOf (fdOf i)) := (h.all i hi).1

theorem GAll.mg4 {G : GE} (h : GAll G) : G.mg "normal" = some (.ref (G.fa 6)) := (show nameOf (fdOf 4) = "normal" by kernel_rfl) ▸ (h.all 4 (by decide)).2
theorem GAll.mg5 {G : GE} (h : GAll G) : G.mg "nat_of" = some (.ref (G.fa 7)) := (show nameOf (fdOf 5) = "nat_of" by kernel_rfl) ▸ (h.all 5 (by decide)).2
theorem GAll.mg6 {G : GE} (h : GAll G) : G.mg "compare" = some (.ref (G.fa 8)) := (show nameOf (fdOf 6) = "compare" by kernel_rfl) ▸ (h.all 6 (by decide)).2
theorem GAll.mg7 {G : GE} (h : GAll G) : G.mg "add" = some (.ref (G.fa 9)) := (show nameOf (fdOf 7) = "add" by kernel_rfl) ▸ (h.all 7 (by decide)).2
theorem GAll.mg8 {G : GE} (h : GAll G) : G.mg "sub" = some (.ref (G.fa 10)) := (show nameOf (fdOf 8) = "sub" by kernel_rfl) ▸ (h.all 8 (by decide)).2
theorem GAll.mg9 {G : GE} (h : GAll G) : G.mg "sub_limb" = some (.ref (G.fa 11)) := (show nameOf (fdOf 9) = "sub_limb" by kernel_rfl) ▸ (h.all 9 (by decide)).2
theorem GAll.mg10 {G : GE} (h : GAll G) : G.mg "mul_limb" = some (.ref (G.fa 12)) := (show nameOf (fdOf 10) = "mul_limb" by kernel_rfl) ▸ (h.all 10 (by decide)).2
theorem GAll.mg11 {G : GE} (h : GAll G) : G.mg "divrem_limb" = some (.ref (G.fa 13)) := (show nameOf (fdOf 11) = "divrem_limb" by kernel_rfl) ▸ (h.all 11 (by decide)).2
theorem GAll.mg12 {G : GE} (h : GAll G) : G.mg "shift_left" = some (.ref (G.fa 14)) := (show nameOf (fdOf 12) = "shift_left" by kernel_rfl) ▸ (h.all 12 (by decide)).2
theorem GAll.mg13 {G : GE} (h : GAll G) : G.mg "shift_right" = some (.ref (G.fa 15)) := (show nameOf (fdOf 13) = "shift_right" by kernel_rfl) ▸ (h.all 13 (by decide)).2
theorem GAll.mg14 {G : GE} (h : GAll G) : G.mg "bits" = some (.ref (G.fa 16)) := (show nameOf (fdOf 14) = "bits" by kernel_rfl) ▸ (h.all 14 (by decide)).2
theorem GAll.mg16 {G : GE} (h : GAll G) : G.mg "plain_of" = some (.ref (G.fa 18)) := (show nameOf (fdOf 16) = "plain_of" by kernel_rfl) ▸ (h.all 16 (by decide)).2
theorem GAll.mg17 {G : GE} (h : GAll G) : G.mg "check_base" = some (.ref (G.fa 19)) := (show nameOf (fdOf 17) = "check_base" by kernel_rfl) ▸ (h.all 17 (by decide)).2
theorem GAll.mg27 {G : GE} (h : GAll G) : G.mg "mul_school" = some (.ref (G.fa 29)) := (show nameOf (fdOf 27) = "mul_school" by kernel_rfl) ▸ (h.all 27 (by decide)).2
theorem GAll.mg30 {G : GE} (h : GAll G) : G.mg "take_away" = some (.ref (G.fa 32)) := (show nameOf (fdOf 30) = "take_away" by kernel_rfl) ▸ (h.all 30 (by decide)).2
theorem GAll.mg31 {G : GE} (h : GAll G) : G.mg "put_back" = some (.ref (G.fa 33)) := (show nameOf (fdOf 31) = "put_back" by kernel_rfl) ▸ (h.all 31 (by decide)).2
theorem GAll.mg29 {G : GE} (h : GAll G) : G.mg "guessed_limb" = some (.ref (G.fa 31)) := (show nameOf (fdOf 29) = "guessed_limb" by kernel_rfl) ▸ (h.all 29 (by decide)).2
theorem GAll.mg32 {G : GE} (h : GAll G) : G.mg "divide_rows" = some (.ref (G.fa 34)) := (show nameOf (fdOf 32) = "divide_rows" by kernel_rfl) ▸ (h.all 32 (by decide)).2
theorem GAll.mg28 {G : GE} (h : GAll G) : G.mg "divrem_small" = some (.ref (G.fa 30)) := (show nameOf (fdOf 28) = "divrem_small" by kernel_rfl) ▸ (h.all 28 (by decide)).2
theorem GAll.mg33 {G : GE} (h : GAll G) : G.mg "divrem_school" = some (.ref (G.fa 35)) := (show nameOf (fdOf 33) = "divrem_school" by kernel_rfl) ▸ (h.all 33 (by decide)).2
theorem GAll.mg18 {G : GE} (h : GAll G) : G.mg "digit_off" = some (.ref (G.fa 20)) := (show nameOf (fdOf 18) = "digit_off" by kernel_rfl) ▸ (h.all 18 (by decide)).2
theorem GAll.mg19 {G : GE} (h : GAll G) : G.mg "digits_plain" = some (.ref (G.fa 21)) := (show nameOf (fdOf 19) = "digits_plain" by kernel_rfl) ▸ (h.all 19 (by decide)).2
theorem GAll.mg25 {G : GE} (h : GAll G) : G.mg "power" = some (.ref (G.fa 27)) := (show nameOf (fdOf 25) = "power" by kernel_rfl) ▸ (h.all 25 (by decide)).2
theorem GAll.mg20 {G : GE} (h : GAll G) : G.mg "base_powers" = some (.ref (G.fa 22)) := (show nameOf (fdOf 20) = "base_powers" by kernel_rfl) ▸ (h.all 20 (by decide)).2
theorem GAll.mg21 {G : GE} (h : GAll G) : G.mg "with_noughts" = some (.ref (G.fa 23)) := (show nameOf (fdOf 21) = "with_noughts" by kernel_rfl) ▸ (h.all 21 (by decide)).2
theorem GAll.mg22 {G : GE} (h : GAll G) : G.mg "digits_by_powers" = some (.ref (G.fa 24)) := (show nameOf (fdOf 22) = "digits_by_powers" by kernel_rfl) ▸ (h.all 22 (by decide)).2
theorem GAll.mg23 {G : GE} (h : GAll G) : G.mg "to_digits" = some (.ref (G.fa 25)) := (show nameOf (fdOf 23) = "to_digits" by kernel_rfl) ▸ (h.all 23 (by decide)).2
theorem GAll.mg35 {G : GE} (h : GAll G) : G.mg "_law_climbed" = some (.ref (G.fa 37)) := (show nameOf (fdOf 35) = "_law_climbed" by kernel_rfl) ▸ (h.all 35 (by decide)).2
theorem GAll.mg36 {G : GE} (h : GAll G) : G.mg "_law_limbs" = some (.ref (G.fa 38)) := (show nameOf (fdOf 36) = "_law_limbs" by kernel_rfl) ▸ (h.all 36 (by decide)).2
theorem GAll.mg37 {G : GE} (h : GAll G) : G.mg "_law_worth" = some (.ref (G.fa 39)) := (show nameOf (fdOf 37) = "_law_worth" by kernel_rfl) ▸ (h.all 37 (by decide)).2
theorem GAll.mg38 {G : GE} (h : GAll G) : G.mg "_law_written" = some (.ref (G.fa 40)) := (show nameOf (fdOf 38) = "_law_written" by kernel_rfl) ▸ (h.all 38 (by decide)).2
theorem GAll.mg39 {G : GE} (h : GAll G) : G.mg "_law_read" = some (.ref (G.fa 41)) := (show nameOf (fdOf 39) = "_law_read" by kernel_rfl) ▸ (h.all 39 (by decide)).2
theorem GAll.mg40 {G : GE} (h : GAll G) : G.mg "_law_raised" = some (.ref (G.fa 42)) := (show nameOf (fdOf 40) = "_law_raised" by kernel_rfl) ▸ (h.all 40 (by decide)).2
theorem GAll.mg41 {G : GE} (h : GAll G) : G.mg "_law_walk" = some (.ref (G.fa 43)) := (show nameOf (fdOf 41) = "_law_walk" by kernel_rfl) ▸ (h.all 41 (by decide)).2
theorem GAll.m0 {G : GE} (h : GAll G) : G.mg "mul_school" = some (.ref (G.fa 0)) := h.f0 ▸ h.mg27
theorem GAll.m1 {G : GE} (h : GAll G) : G.mg "divrem_school" = some (.ref (G.fa 1)) := h.f1 ▸ h.mg33
def F_normal : FC := { name := "normal", scope := scopeOf (fdOf 4), names := ["a", "end"] }
theorem hF_normal : F_normal.Ok := ⟨by kernel_rfl, by decide +kernel, by decide +kernel⟩
theorem s_normal {G : GE} (hA : GAll G) : OkB G F_normal 1 (bodyOf (fdOf 4)) m_normal := by
  have hF := hF_normal
  have hG := hA.ok
  unfold m_normal
  refine @okB_cons _ _ _ _ _ _ _ ?_ ?_
  refine @ok_set _ _ _ hF _ _ _ _ _ _ _ at1 (by kernel_rfl) ?_ (by intro L a cd; kernel_rfl)
  refine @ok_len _ _ _ hF hG _ _ _ _ ?_ (by kernel_rfl) (fun _ => rfl)
  exact (@ok_var _ _ _ hF _ _ _ _ at0 (by kernel_rfl))
  refine @okB_cons _ _ _ _ _ _ _ ?_ ?_
  refine @ok_while _ _ _ _ _ _ _ _ ?_ ?_
  refine @ok_and _ _ _ _ _ _ _ _ ?_ ?_
  refine @ok_cmp _ _ _ _ _ _ _ _ _ _ ?_ ?_ (@c_gt _ _ _) (by rfl)
  exact (@ok_var _ _ _ hF _ _ _ _ at1 (by kernel_rfl))
  exact @ok_int _ _ _ _ _ _ _ (by rfl)
  refine @ok_cmp _ _ _ _ _ _ _ _ _ _ ?_ ?_ (@c_eq _ _ _) (by rfl)
  refine @ok_idx _ _ _ _ _ _ _ _ ?_ ?_ (fun _ _ => rfl)
  exact (@ok_var _ _ _ hF _ _ _ _ at0 (by kernel_rfl))
  refine @ok_bin _ _ _ _ _ _ _ _ _ _ ?_ ?_ (@op_sub _ _ _)
  exact (@ok_var _ _ _ hF _ _ _ _ at1 (by kernel_rfl))
  exact @ok_int _ _ _ _ _ _ _ (by rfl)
  exact @ok_int _ _ _ _ _ _ _ (by rfl)
  refine @okB_cons _ _ _ _ _ _ _ ?_ ?_
  refine @ok_aug _ _ _ hF _ _ _ _ _ _ _ _ _ at1 (by kernel_rfl) ?_ (@op_isub _ _ _)
  exact @ok_int _ _ _ _ _ _ _ (by rfl)
  exact @okB_nil _ _ _
  refine @okB_cons _ _ _ _ _ _ _ ?_ ?_
  refine @ok_ret _ _ _ _ _ _ ?_
  refine @ok_slice _ _ _ _ _ _ _ _ _ _ _ ?_ ?_ ?_ (fun _ _ => rfl)
  exact (@ok_var _ _ _ hF _ _ _ _ at0 (by kernel_rfl))
  exact rfl
  exact (@ok_var _ _ _ hF _ _ _ _ at1 (by kernel_rfl))
  exact @okB_nil _ _ _
theorem C_normal {G : GE} (hA : GAll G) : CallOk G 2 (G.fa 6) c_normal :=
  callOk_of (n := 1) (F := F_normal) (k := 1) hA.ok hF_normal (hA.at 4) (s_normal hA) (by decide) (fun pm cd doc vs e => by
    match vs, e with
    | [v0], _ => rfl) (by decide +kernel) (by kernel_rfl) (by kernel_rfl)
def F_nat_of : FC := { name := "nat_of", scope := scopeOf (fdOf 5), names := ["number", "w", "found", "mask"] }
theorem hF_nat_of : F_nat_of.Ok := ⟨by kernel_rfl, by decide +kernel, by decide +kernel⟩
theorem s_nat_of {G : GE} (hA : GAll G) : OkB G F_nat_of 1 (bodyOf (fdOf 5)) m_nat_of := by
  have hF := hF_nat_of
  have hG := hA.ok
  unfold m_nat_of
  refine @okB_cons _ _ _ _ _ _ _ ?_ ?_
  refine @ok_ifs _ _ _ _ _ _ _ _ _ _ ?_ ?_ ?_
  refine @ok_cmp _ _ _ _ _ _ _ _ _ _ ?_ ?_ (@c_lt _ _ _) (by rfl)
  exact (@ok_var _ _ _ hF _ _ _ _ at0 (by kernel_rfl))
  exact @ok_int _ _ _ _ _ _ _ (by rfl)
  refine @okB_cons _ _ _ _ _ _ _ ?_ ?_
  exact @ok_fail _ _ _ _
  exact @okB_nil _ _ _
  exact @okB_nil _ _ _
  refine @okB_cons _ _ _ _ _ _ _ ?_ ?_
  refine @ok_setTupR _ _ _ hF _ _ _ ["found", "mask"] _ _ _ _ _ _ (@TgN.cons _ _ _ _ _ _ at3 (by kernel_rfl) (@TgN.cons _ _ _ _ _ _ at2 (by kernel_rfl) (@TgN.nil _))) ?_ (Nat.le_of_ble_eq_true rfl) (by rfl) (by intro L a cd; kernel_rfl) (by intro L a cd; kernel_rfl)
  refine @okV_cons _ _ _ _ _ _ _ ?_ ?_ (fun _ => rfl)
  refine @ok_list _ _ _ _ _ _ ?_
  exact @okL_nil _ _ _
  refine @okV_cons _ _ _ _ _ _ _ ?_ ?_ (fun _ => rfl)
  refine @ok_bin _ _ _ _ _ _ _ _ _ _ ?_ ?_ (@op_sub _ _ _)
  refine @ok_bin _ _ _ _ _ _ _ _ _ _ ?_ ?_ (@op_shl _ _ _)
  exact @ok_int _ _ _ _ _ _ _ (by rfl)
  exact (@ok_var _ _ _ hF _ _ _ _ at1 (by kernel_rfl))
  exact @ok_int _ _ _ _ _ _ _ (by rfl)
  exact @okV_nil _ _ _
  refine @okB_cons _ _ _ _ _ _ _ ?_ ?_
  refine @ok_while _ _ _ _ _ _ _ _ ?_ ?_
  refine @ok_cmp _ _ _ _ _ _ _ _ _ _ ?_ ?_ (@c_gt _ _ _) (by rfl)
  exact (@ok_var _ _ _ hF _ _ _ _ at0 (by kernel_rfl))
  exact @ok_int _ _ _ _ _ _ _ (by rfl)
  refine @okB_cons _ _ _ _ _ _ _ ?_ ?_
  refine @ok_app _ _ _ hF _ _ _ _ _ _ _ _ _ at2 (by kernel_rfl) ?_ (fun _ => rfl) (fun _ => rfl) (by intro L a cd; kernel_rfl) (by intro L a cd; kernel_rfl)
  refine @ok_bin _ _ _ _ _ _ _ _ _ _ ?_ ?_ (@op_and _ _ _)
  exact (@ok_var _ _ _ hF _ _ _ _ at0 (by kernel_rfl))
  exact (@ok_var _ _ _ hF _ _ _ _ at3 (by kernel_rfl))
  refine @okB_cons _ _ _ _ _ _ _ ?_ ?_
  refine @ok_aug _ _ _ hF _ _ _ _ _ _ _ _ _ at0 (by kernel_rfl) ?_ (@op_ishr _ _ _)
  exact (@ok_var _ _ _ hF _ _ _ _ at1 (by kernel_rfl))
  exact @okB_nil _ _ _
  refine @okB_cons _ _ _ _ _ _ _ ?_ ?_
  refine @ok_ret _ _ _ _ _ _ ?_
  exact (@ok_var _ _ _ hF _ _ _ _ at2 (by kernel_rfl))
  exact @okB_nil _ _ _
theorem C_nat_of {G : GE} (hA : GAll G) : CallOk G 2 (G.fa 7) c_nat_of :=
  callOk_of (n := 1) (F := F_nat_of) (k := 2) hA.ok hF_nat_of (hA.at 5) (s_nat_of hA) (by decide) (fun pm cd doc vs e => by
    match vs, e with
    | [v0, v1], _ => rfl) (by decide +kernel) (by kernel_rfl) (by kernel_rfl)
def F_compare : FC := { name := "compare", scope := scopeOf (fdOf 6), names := ["a", "b", "at"] }
theorem hF_compare : F_compare.Ok := ⟨by kernel_rfl, by decide +kernel, by decide +kernel⟩
theorem s_compare {G : GE} (hA : GAll G) : OkB G F_compare 1 (bodyOf (fdOf 6)) m_compare := by
  have hF := hF_compare
  have hG := hA.ok
  unfold m_compare
  refine @okB_cons _ _ _ _ _ _ _ ?_ ?_
  refine @ok_ifs _ _ _ _ _ _ _ _ _ _ ?_ ?_ ?_
  refine @ok_cmp _ _ _ _ _ _ _ _ _ _ ?_ ?_ (@c_ne _ _ _) (by rfl)
  refine @ok_len _ _ _ hF hG _ _ _ _ ?_ (by kernel_rfl) (fun _ => rfl)
  exact (@ok_var _ _ _ hF _ _ _ _ at0 (by kernel_rfl))
  refine @ok_len _ _ _ hF hG _ _ _ _ ?_ (by kernel_rfl) (fun _ => rfl)
  exact (@ok_var _ _ _ hF _ _ _ _ at1 (by kernel_rfl))
  refine @okB_cons _ _ _ _ _ _ _ ?_ ?_
  refine @ok_ret _ _ _ _ _ _ ?_
  refine @ok_if _ _ _ _ _ _ _ _ _ _ ?_ ?_ ?_
  refine @ok_cmp _ _ _ _ _ _ _ _ _ _ ?_ ?_ (@c_lt _ _ _) (by rfl)
  refine @ok_len _ _ _ hF hG _ _ _ _ ?_ (by kernel_rfl) (fun _ => rfl)
  exact (@ok_var _ _ _ hF _ _ _ _ at0 (by kernel_rfl))
  refine @ok_len _ _ _ hF hG _ _ _ _ ?_ (by kernel_rfl) (fun _ => rfl)
  exact (@ok_var _ _ _ hF _ _ _ _ at1 (by kernel_rfl))
  refine @ok_neg _ _ _ _ _ _ ?_
  exact @ok_int _ _ _ _ _ _ _ (by rfl)
  exact @ok_int _ _ _ _ _ _ _ (by rfl)
  exact @okB_nil _ _ _
  exact @okB_nil _ _ _
  refine @okB_cons _ _ _ _ _ _ _ ?_ ?_
  refine @ok_for _ _ _ _ _ _ _ _ _ _ ?_ (step1_nx _) ?_ (fun _ _ _ _ => rfl)
  refine @okI_rangeD _ _ _ hF hG _ _ _ _ _ _ _ _ _ _ _ at2 (by kernel_rfl) ?_ ?_ (@ok_neg _ _ _ _ _ _ (@ok_int _ _ _ _ _ _ _ (by rfl))) (by kernel_rfl) (fun _ => rfl) (fun _ => rfl) (fun _ => rfl)
  refine @ok_bin _ _ _ _ _ _ _ _ _ _ ?_ ?_ (@op_sub _ _ _)
  refine @ok_len _ _ _ hF hG _ _ _ _ ?_ (by kernel_rfl) (fun _ => rfl)
  exact (@ok_var _ _ _ hF _ _ _ _ at0 (by kernel_rfl))
  exact @ok_int _ _ _ _ _ _ _ (by rfl)
  refine @ok_neg _ _ _ _ _ _ ?_
  exact @ok_int _ _ _ _ _ _ _ (by rfl)
  refine @okB_cons _ _ _ _ _ _ _ ?_ ?_
  refine @ok_ifs _ _ _ _ _ _ _ _ _ _ ?_ ?_ ?_
  refine @ok_cmp _ _ _ _ _ _ _ _ _ _ ?_ ?_ (@c_ne _ _ _) (by rfl)
  refine @ok_idx _ _ _ _ _ _ _ _ ?_ ?_ (fun _ _ => rfl)
  exact (@ok_var _ _ _ hF _ _ _ _ at0 (by kernel_rfl))
  exact (@ok_var _ _ _ hF _ _ _ _ at2 (by kernel_rfl))
  refine @ok_idx _ _ _ _ _ _ _ _ ?_ ?_ (fun _ _ => rfl)
  exact (@ok_var _ _ _ hF _ _ _ _ at1 (by kernel_rfl))
  exact (@ok_var _ _ _ hF _ _ _ _ at2 (by kernel_rfl))
  refine @okB_cons _ _ _ _ _ _ _ ?_ ?_
  refine @ok_ret _ _ _ _ _ _ ?_
  refine @ok_if _ _ _ _ _ _ _ _ _ _ ?_ ?_ ?_
  refine @ok_cmp _ _ _ _ _ _ _ _ _ _ ?_ ?_ (@c_lt _ _ _) (by rfl)
  refine @ok_idx _ _ _ _ _ _ _ _ ?_ ?_ (fun _ _ => rfl)
  exact (@ok_var _ _ _ hF _ _ _ _ at0 (by kernel_rfl))
  exact (@ok_var _ _ _ hF _ _ _ _ at2 (by kernel_rfl))
  refine @ok_idx _ _ _ _ _ _ _ _ ?_ ?_ (fun _ _ => rfl)
  exact (@ok_var _ _ _ hF _ _ _ _ at1 (by kernel_rfl))
  exact (@ok_var _ _ _ hF _ _ _ _ at2 (by kernel_rfl))
  refine @ok_neg _ _ _ _ _ _ ?_
  exact @ok_int _ _ _ _ _ _ _ (by rfl)
  exact @ok_int _ _ _ _ _ _ _ (by rfl)
  exact @okB_nil _ _ _
  exact @okB_nil _ _ _
  exact @okB_nil _ _ _
  refine @okB_cons _ _ _ _ _ _ _ ?_ ?_
  refine @ok_ret _ _ _ _ _ _ ?_
  exact @ok_int _ _ _ _ _ _ _ (by rfl)
  exact @okB_nil _ _ _
theorem C_compare {G : GE} (hA : GAll G) : CallOk G 2 (G.fa 8) c_compare :=
  callOk_of (n := 1) (F := F_compare) (k := 2) hA.ok hF_compare (hA.at 6) (s_compare hA) (by decide) (fun pm cd doc vs e => by
    match vs, e with
    | [v0, v1], _ => rfl) (by decide +kernel) (by kernel_rfl) (by kernel_rfl)
def F_add : FC := { name := "add", scope := scopeOf (fdOf 7), names := ["a", "b", "w", "found", "carry", "mask", "at"] }
theorem hF_add : F_add.Ok := ⟨by kernel_rfl, by decide +kernel, by decide +kernel⟩
theorem s_add {G : GE} (hA : GAll G) : OkB G F_add 1 (bodyOf (fdOf 7)) m_add := by
  have hF := hF_add
  have hG := hA.ok
  unfold m_add
  refine @okB_cons _ _ _ _ _ _ _ ?_ ?_
  refine @ok_ifs _ _ _ _ _ _ _ _ _ _ ?_ ?_ ?_
  refine @ok_cmp _ _ _ _ _ _ _ _ _ _ ?_ ?_ (@c_lt _ _ _) (by rfl)
  refine @ok_len _ _ _ hF hG _ _ _ _ ?_ (by kernel_rfl) (fun _ => rfl)
  exact (@ok_var _ _ _ hF _ _ _ _ at0 (by kernel_rfl))
  refine @ok_len _ _ _ hF hG _ _ _ _ ?_ (by kernel_rfl) (fun _ => rfl)
  exact (@ok_var _ _ _ hF _ _ _ _ at1 (by kernel_rfl))
  refine @okB_cons _ _ _ _ _ _ _ ?_ ?_
  refine @ok_setTupR _ _ _ hF _ _ _ ["a", "b"] _ _ _ _ _ _ (@TgN.cons _ _ _ _ _ _ at1 (by kernel_rfl) (@TgN.cons _ _ _ _ _ _ at0 (by kernel_rfl) (@TgN.nil _))) ?_ (Nat.le_of_ble_eq_true rfl) (by rfl) (by intro L a cd; kernel_rfl) (by intro L a cd; kernel_rfl)
  refine @okV_cons _ _ _ _ _ _ _ ?_ ?_ (fun _ => rfl)
  exact (@ok_var _ _ _ hF _ _ _ _ at1 (by kernel_rfl))
  refine @okV_cons _ _ _ _ _ _ _ ?_ ?_ (fun _ => rfl)
  exact (@ok_var _ _ _ hF _ _ _ _ at0 (by kernel_rfl))
  exact @okV_nil _ _ _
  exact @okB_nil _ _ _
  exact @okB_nil _ _ _
  refine @okB_cons _ _ _ _ _ _ _ ?_ ?_
  refine @ok_setTupR _ _ _ hF _ _ _ ["found", "carry", "mask"] _ _ _ _ _ _ (@TgN.cons _ _ _ _ _ _ at5 (by kernel_rfl) (@TgN.cons _ _ _ _ _ _ at4 (by kernel_rfl) (@TgN.cons _ _ _ _ _ _ at3 (by kernel_rfl) (@TgN.nil _)))) ?_ (Nat.le_of_ble_eq_true rfl) (by rfl) (by intro L a cd; kernel_rfl) (by intro L a cd; kernel_rfl)
  refine @okV_cons _ _ _ _ _ _ _ ?_ ?_ (fun _ => rfl)
  refine @ok_list _ _ _ _ _ _ ?_
  exact @okL_nil _ _ _
  refine @okV_cons _ _ _ _ _ _ _ ?_ ?_ (fun _ => rfl)
  exact @ok_int _ _ _ _ _ _ _ (by rfl)
  refine @okV_cons _ _ _ _ _ _ _ ?_ ?_ (fun _ => rfl)
  refine @ok_bin _ _ _ _ _ _ _ _ _ _ ?_ ?_ (@op_sub _ _ _)
  refine @ok_bin _ _ _ _ _ _ _ _ _ _ ?_ ?_ (@op_shl _ _ _)
  exact @ok_int _ _ _ _ _ _ _ (by rfl)
  exact (@ok_var _ _ _ hF _ _ _ _ at2 (by kernel_rfl))
  exact @ok_int _ _ _ _ _ _ _ (by rfl)
  exact @okV_nil _ _ _
  refine @okB_cons _ _ _ _ _ _ _ ?_ ?_
  refine @ok_for _ _ _ _ _ _ _ _ _ _ ?_ (step1_nx _) ?_ (fun _ _ _ _ => rfl)
  refine @okI_range1 _ _ _ hF hG _ _ _ _ _ _ _ _ at6 (by kernel_rfl) ?_ (by kernel_rfl) (fun _ => rfl)
  refine @ok_len _ _ _ hF hG _ _ _ _ ?_ (by kernel_rfl) (fun _ => rfl)
  exact (@ok_var _ _ _ hF _ _ _ _ at1 (by kernel_rfl))
  refine @okB_cons _ _ _ _ _ _ _ ?_ ?_
  refine @ok_aug _ _ _ hF _ _ _ _ _ _ _ _ _ at4 (by kernel_rfl) ?_ (@op_iadd _ _ _)
  refine @ok_bin _ _ _ _ _ _ _ _ _ _ ?_ ?_ (@op_add _ _ _)
  refine @ok_idx _ _ _ _ _ _ _ _ ?_ ?_ (fun _ _ => rfl)
  exact (@ok_var _ _ _ hF _ _ _ _ at0 (by kernel_rfl))
  exact (@ok_var _ _ _ hF _ _ _ _ at6 (by kernel_rfl))
  refine @ok_idx _ _ _ _ _ _ _ _ ?_ ?_ (fun _ _ => rfl)
  exact (@ok_var _ _ _ hF _ _ _ _ at1 (by kernel_rfl))
  exact (@ok_var _ _ _ hF _ _ _ _ at6 (by kernel_rfl))
  refine @okB_cons _ _ _ _ _ _ _ ?_ ?_
  refine @ok_app _ _ _ hF _ _ _ _ _ _ _ _ _ at3 (by kernel_rfl) ?_ (fun _ => rfl) (fun _ => rfl) (by intro L a cd; kernel_rfl) (by intro L a cd; kernel_rfl)
  refine @ok_bin _ _ _ _ _ _ _ _ _ _ ?_ ?_ (@op_and _ _ _)
  exact (@ok_var _ _ _ hF _ _ _ _ at4 (by kernel_rfl))
  exact (@ok_var _ _ _ hF _ _ _ _ at5 (by kernel_rfl))
  refine @okB_cons _ _ _ _ _ _ _ ?_ ?_
  refine @ok_aug _ _ _ hF _ _ _ _ _ _ _ _ _ at4 (by kernel_rfl) ?_ (@op_ishr _ _ _)
  exact (@ok_var _ _ _ hF _ _ _ _ at2 (by kernel_rfl))
  exact @okB_nil _ _ _
  refine @okB_cons _ _ _ _ _ _ _ ?_ ?_
  refine @ok_for _ _ _ _ _ _ _ _ _ _ ?_ (step1_nx _) ?_ (fun _ _ _ _ => rfl)
  refine @okI_range2 _ _ _ hF hG _ _ _ _ _ _ _ _ _ _ at6 (by kernel_rfl) ?_ ?_ (by kernel_rfl) (fun _ => rfl) (fun _ => rfl)
  refine @ok_len _ _ _ hF hG _ _ _ _ ?_ (by kernel_rfl) (fun _ => rfl)
  exact (@ok_var _ _ _ hF _ _ _ _ at1 (by kernel_rfl))
  refine @ok_len _ _ _ hF hG _ _ _ _ ?_ (by kernel_rfl) (fun _ => rfl)
  exact (@ok_var _ _ _ hF _ _ _ _ at0 (by kernel_rfl))
  refine @okB_cons _ _ _ _ _ _ _ ?_ ?_
  refine @ok_aug _ _ _ hF _ _ _ _ _ _ _ _ _ at4 (by kernel_rfl) ?_ (@op_iadd _ _ _)
  refine @ok_idx _ _ _ _ _ _ _ _ ?_ ?_ (fun _ _ => rfl)
  exact (@ok_var _ _ _ hF _ _ _ _ at0 (by kernel_rfl))
  exact (@ok_var _ _ _ hF _ _ _ _ at6 (by kernel_rfl))
  refine @okB_cons _ _ _ _ _ _ _ ?_ ?_
  refine @ok_app _ _ _ hF _ _ _ _ _ _ _ _ _ at3 (by kernel_rfl) ?_ (fun _ => rfl) (fun _ => rfl) (by intro L a cd; kernel_rfl) (by intro L a cd; kernel_rfl)
  refine @ok_bin _ _ _ _ _ _ _ _ _ _ ?_ ?_ (@op_and _ _ _)
  exact (@ok_var _ _ _ hF _ _ _ _ at4 (by kernel_rfl))
  exact (@ok_var _ _ _ hF _ _ _ _ at5 (by kernel_rfl))
  refine @okB_cons _ _ _ _ _ _ _ ?_ ?_
  refine @ok_aug _ _ _ hF _ _ _ _ _ _ _ _ _ at4 (by kernel_rfl) ?_ (@op_ishr _ _ _)
  exact (@ok_var _ _ _ hF _ _ _ _ at2 (by kernel_rfl))
  exact @okB_nil _ _ _
  refine @okB_cons _ _ _ _ _ _ _ ?_ ?_
  refine @ok_ifs _ _ _ _ _ _ _ _ _ _ ?_ ?_ ?_
  refine @ok_cmp _ _ _ _ _ _ _ _ _ _ ?_ ?_ (@c_gt _ _ _) (by rfl)
  exact (@ok_var _ _ _ hF _ _ _ _ at4 (by kernel_rfl))
  exact @ok_int _ _ _ _ _ _ _ (by rfl)
  refine @okB_cons _ _ _ _ _ _ _ ?_ ?_
  refine @ok_app _ _ _ hF _ _ _ _ _ _ _ _ _ at3 (by kernel_rfl) ?_ (fun _ => rfl) (fun _ => rfl) (by intro L a cd; kernel_rfl) (by intro L a cd; kernel_rfl)
  exact (@ok_var _ _ _ hF _ _ _ _ at4 (by kernel_rfl))
  exact @okB_nil _ _ _
  exact @okB_nil _ _ _
  refine @okB_cons _ _ _ _ _ _ _ ?_ ?_
  refine @ok_ret _ _ _ _ _ _ ?_
  exact (@ok_var _ _ _ hF _ _ _ _ at3 (by kernel_rfl))
  exact @okB_nil _ _ _
theorem C_add {G : GE} (hA : GAll G) : CallOk G 2 (G.fa 9) c_add :=
  callOk_of (n := 1) (F := F_add) (k := 3) hA.ok hF_add (hA.at 7) (s_add hA) (by decide) (fun pm cd doc vs e => by
    match vs, e with
    | [v0, v1, v2], _ => rfl) (by decide +kernel) (by kernel_rfl) (by kernel_rfl)
def F_sub : FC := { name := "sub", scope := scopeOf (fdOf 8), names := ["a", "b", "w", "found", "borrow", "base", "at", "limb"] }
theorem hF_sub : F_sub.Ok := ⟨by kernel_rfl, by decide +kernel, by decide +kernel⟩
theorem s_sub {G : GE} (hA : GAll G) : OkB G F_sub 2 (bodyOf (fdOf 8)) m_sub := by
  have hF := hF_sub
  have hG := hA.ok
  unfold m_sub
  refine @okB_cons _ _ _ _ _ _ _ ?_ ?_
  refine @ok_ifs _ _ _ _ _ _ _ _ _ _ ?_ ?_ ?_
  refine @ok_cmp _ _ _ _ _ _ _ _ _ _ ?_ ?_ (@c_lt _ _ _) (by rfl)
  refine @ok_call _ _ _ hF hG _ _ _ _ _ _ _ _ ?_ ((C_compare hA).mono (by omega)) (by kernel_rfl) (by kernel_rfl) (hA.mg6) (fun _ => rfl)
  refine @okL_cons _ _ _ _ _ _ _ ?_ ?_ (fun _ => rfl)
  exact (@ok_var _ _ _ hF _ _ _ _ at0 (by kernel_rfl))
  refine @okL_cons _ _ _ _ _ _ _ ?_ ?_ (fun _ => rfl)
  exact (@ok_var _ _ _ hF _ _ _ _ at1 (by kernel_rfl))
  exact @okL_nil _ _ _
  exact @ok_int _ _ _ _ _ _ _ (by rfl)
  refine @okB_cons _ _ _ _ _ _ _ ?_ ?_
  exact @ok_fail _ _ _ _
  exact @okB_nil _ _ _
  exact @okB_nil _ _ _
  refine @okB_cons _ _ _ _ _ _ _ ?_ ?_
  refine @ok_setTupR _ _ _ hF _ _ _ ["found", "borrow", "base"] _ _ _ _ _ _ (@TgN.cons _ _ _ _ _ _ at5 (by kernel_rfl) (@TgN.cons _ _ _ _ _ _ at4 (by kernel_rfl) (@TgN.cons _ _ _ _ _ _ at3 (by kernel_rfl) (@TgN.nil _)))) ?_ (Nat.le_of_ble_eq_true rfl) (by rfl) (by intro L a cd; kernel_rfl) (by intro L a cd; kernel_rfl)
  refine @okV_cons _ _ _ _ _ _ _ ?_ ?_ (fun _ => rfl)
  refine @ok_list _ _ _ _ _ _ ?_
  exact @okL_nil _ _ _
  refine @okV_cons _ _ _ _ _ _ _ ?_ ?_ (fun _ => rfl)
  exact @ok_int _ _ _ _ _ _ _ (by rfl)
  refine @okV_cons _ _ _ _ _ _ _ ?_ ?_ (fun _ => rfl)
  refine @ok_bin _ _ _ _ _ _ _ _ _ _ ?_ ?_ (@op_shl _ _ _)
  exact @ok_int _ _ _ _ _ _ _ (by rfl)
  exact (@ok_var _ _ _ hF _ _ _ _ at2 (by kernel_rfl))
  exact @okV_nil _ _ _
  refine @okB_cons _ _ _ _ _ _ _ ?_ ?_
  refine @ok_for _ _ _ _ _ _ _ _ _ _ ?_ (step1_nx _) ?_ (fun _ _ _ _ => rfl)
  refine @okI_range1 _ _ _ hF hG _ _ _ _ _ _ _ _ at6 (by kernel_rfl) ?_ (by kernel_rfl) (fun _ => rfl)
  refine @ok_len _ _ _ hF hG _ _ _ _ ?_ (by kernel_rfl) (fun _ => rfl)
  exact (@ok_var _ _ _ hF _ _ _ _ at0 (by kernel_rfl))
  refine @okB_cons _ _ _ _ _ _ _ ?_ ?_
  refine @ok_set _ _ _ hF _ _ _ _ _ _ _ at7 (by kernel_rfl) ?_ (by intro L a cd; kernel_rfl)
  refine @ok_bin _ _ _ _ _ _ _ _ _ _ ?_ ?_ (@op_sub _ _ _)
  refine @ok_bin _ _ _ _ _ _ _ _ _ _ ?_ ?_ (@op_sub _ _ _)
  refine @ok_idx _ _ _ _ _ _ _ _ ?_ ?_ (fun _ _ => rfl)
  exact (@ok_var _ _ _ hF _ _ _ _ at0 (by kernel_rfl))
  exact (@ok_var _ _ _ hF _ _ _ _ at6 (by kernel_rfl))
  exact (@ok_var _ _ _ hF _ _ _ _ at4 (by kernel_rfl))
  refine @ok_if _ _ _ _ _ _ _ _ _ _ ?_ ?_ ?_
  refine @ok_cmp _ _ _ _ _ _ _ _ _ _ ?_ ?_ (@c_lt _ _ _) (by rfl)
  exact (@ok_var _ _ _ hF _ _ _ _ at6 (by kernel_rfl))
  refine @ok_len _ _ _ hF hG _ _ _ _ ?_ (by kernel_rfl) (fun _ => rfl)
  exact (@ok_var _ _ _ hF _ _ _ _ at1 (by kernel_rfl))
  refine @ok_idx _ _ _ _ _ _ _ _ ?_ ?_ (fun _ _ => rfl)
  exact (@ok_var _ _ _ hF _ _ _ _ at1 (by kernel_rfl))
  exact (@ok_var _ _ _ hF _ _ _ _ at6 (by kernel_rfl))
  exact @ok_int _ _ _ _ _ _ _ (by rfl)
  refine @okB_cons _ _ _ _ _ _ _ ?_ ?_
  refine @ok_set _ _ _ hF _ _ _ _ _ _ _ at4 (by kernel_rfl) ?_ (by intro L a cd; kernel_rfl)
  refine @ok_if _ _ _ _ _ _ _ _ _ _ ?_ ?_ ?_
  refine @ok_cmp _ _ _ _ _ _ _ _ _ _ ?_ ?_ (@c_lt _ _ _) (by rfl)
  exact (@ok_var _ _ _ hF _ _ _ _ at7 (by kernel_rfl))
  exact @ok_int _ _ _ _ _ _ _ (by rfl)
  exact @ok_int _ _ _ _ _ _ _ (by rfl)
  exact @ok_int _ _ _ _ _ _ _ (by rfl)
  refine @okB_cons _ _ _ _ _ _ _ ?_ ?_
  refine @ok_app _ _ _ hF _ _ _ _ _ _ _ _ _ at3 (by kernel_rfl) ?_ (fun _ => rfl) (fun _ => rfl) (by intro L a cd; kernel_rfl) (by intro L a cd; kernel_rfl)
  refine @ok_if _ _ _ _ _ _ _ _ _ _ ?_ ?_ ?_
  refine @ok_cmp _ _ _ _ _ _ _ _ _ _ ?_ ?_ (@c_lt _ _ _) (by rfl)
  exact (@ok_var _ _ _ hF _ _ _ _ at7 (by kernel_rfl))
  exact @ok_int _ _ _ _ _ _ _ (by rfl)
  refine @ok_bin _ _ _ _ _ _ _ _ _ _ ?_ ?_ (@op_add _ _ _)
  exact (@ok_var _ _ _ hF _ _ _ _ at7 (by kernel_rfl))
  exact (@ok_var _ _ _ hF _ _ _ _ at5 (by kernel_rfl))
  exact (@ok_var _ _ _ hF _ _ _ _ at7 (by kernel_rfl))
  exact @okB_nil _ _ _
  refine @okB_cons _ _ _ _ _ _ _ ?_ ?_
  refine @ok_ret _ _ _ _ _ _ ?_
  refine @ok_call _ _ _ hF hG _ _ _ _ _ _ _ _ ?_ ((C_normal hA).mono (by omega)) (by kernel_rfl) (by kernel_rfl) (hA.mg4) (fun _ => rfl)
  refine @okL_cons _ _ _ _ _ _ _ ?_ ?_ (fun _ => rfl)
  exact (@ok_var _ _ _ hF _ _ _ _ at3 (by kernel_rfl))
  exact @okL_nil _ _ _
  exact @okB_nil _ _ _
theorem C_sub {G : GE} (hA : GAll G) : CallOk G 3 (G.fa 10) c_sub :=
  callOk_of (n := 2) (F := F_sub) (k := 3) hA.ok hF_sub (hA.at 8) (s_sub hA) (by decide) (fun pm cd doc vs e => by
    match vs, e with
    | [v0, v1, v2], _ => rfl) (by decide +kernel) (by kernel_rfl) (by kernel_rfl)
def F_sub_limb : FC := { name := "sub_limb", scope := scopeOf (fdOf 9), names := ["a", "limb", "w"] }
theorem hF_sub_limb : F_sub_limb.Ok := ⟨by kernel_rfl, by decide +kernel, by decide +kernel⟩
theorem s_sub_limb {G : GE} (hA : GAll G) : OkB G F_sub_limb 3 (bodyOf (fdOf 9)) m_sub_limb := by
  have hF := hF_sub_limb
  have hG := hA.ok
  unfold m_sub_limb
  refine @okB_cons _ _ _ _ _ _ _ ?_ ?_
  refine @ok_ret _ _ _ _ _ _ ?_
  refine @ok_call _ _ _ hF hG _ _ _ _ _ _ _ _ ?_ ((C_sub hA).mono (by omega)) (by kernel_rfl) (by kernel_rfl) (hA.mg8) (fun _ => rfl)
  refine @okL_cons _ _ _ _ _ _ _ ?_ ?_ (fun _ => rfl)
  exact (@ok_var _ _ _ hF _ _ _ _ at0 (by kernel_rfl))
  refine @okL_cons _ _ _ _ _ _ _ ?_ ?_ (fun _ => rfl)
  refine @ok_if _ _ _ _ _ _ _ _ _ _ ?_ ?_ ?_
  refine @ok_cmp _ _ _ _ _ _ _ _ _ _ ?_ ?_ (@c_gt _ _ _) (by rfl)
  exact (@ok_var _ _ _ hF _ _ _ _ at1 (by kernel_rfl))
  exact @ok_int _ _ _ _ _ _ _ (by rfl)
  refine @ok_list _ _ _ _ _ _ ?_
  refine @okL_cons _ _ _ _ _ _ _ ?_ ?_ (fun _ => rfl)
  exact (@ok_var _ _ _ hF _ _ _ _ at1 (by kernel_rfl))
  exact @okL_nil _ _ _
  refine @ok_list _ _ _ _ _ _ ?_
  exact @okL_nil _ _ _
  refine @okL_cons _ _ _ _ _ _ _ ?_ ?_ (fun _ => rfl)
  exact (@ok_var _ _ _ hF _ _ _ _ at2 (by kernel_rfl))
  exact @okL_nil _ _ _
  exact @okB_nil _ _ _
theorem C_sub_limb {G : GE} (hA : GAll G) : CallOk G 4 (G.fa 11) c_sub_limb :=
  callOk_of (n := 3) (F := F_sub_limb) (k := 3) hA.ok hF_sub_limb (hA.at 9) (s_sub_limb hA) (by decide) (fun pm cd doc vs e => by
    match vs, e with
    | [v0, v1, v2], _ => rfl) (by decide +kernel) (by kernel_rfl) (by kernel_rfl)
def F_mul_limb : FC := { name := "mul_limb", scope := scopeOf (fdOf 10), names := ["a", "limb", "w", "found", "carry", "mask", "one"] }
theorem hF_mul_limb : F_mul_limb.Ok := ⟨by kernel_rfl, by decide +kernel, by decide +kernel⟩
theorem s_mul_limb {G : GE} (hA : GAll G) : OkB G F_mul_limb 1 (bodyOf (fdOf 10)) m_mul_limb := by
  have hF := hF_mul_limb
  have hG := hA.ok
  unfold m_mul_limb
  refine @okB_cons _ _ _ _ _ _ _ ?_ ?_
  refine @ok_ifs _ _ _ _ _ _ _ _ _ _ ?_ ?_ ?_
  refine @ok_cmp _ _ _ _ _ _ _ _ _ _ ?_ ?_ (@c_eq _ _ _) (by rfl)
  exact (@ok_var _ _ _ hF _ _ _ _ at1 (by kernel_rfl))
  exact @ok_int _ _ _ _ _ _ _ (by rfl)
  refine @okB_cons _ _ _ _ _ _ _ ?_ ?_
  refine @ok_ret _ _ _ _ _ _ ?_
  refine @ok_list _ _ _ _ _ _ ?_
  exact @okL_nil _ _ _
  exact @okB_nil _ _ _
  exact @okB_nil _ _ _
  refine @okB_cons _ _ _ _ _ _ _ ?_ ?_
  refine @ok_setTupR _ _ _ hF _ _ _ ["found", "carry", "mask"] _ _ _ _ _ _ (@TgN.cons _ _ _ _ _ _ at5 (by kernel_rfl) (@TgN.cons _ _ _ _ _ _ at4 (by kernel_rfl) (@TgN.cons _ _ _ _ _ _ at3 (by kernel_rfl) (@TgN.nil _)))) ?_ (Nat.le_of_ble_eq_true rfl) (by rfl) (by intro L a cd; kernel_rfl) (by intro L a cd; kernel_rfl)
  refine @okV_cons _ _ _ _ _ _ _ ?_ ?_ (fun _ => rfl)
  refine @ok_list _ _ _ _ _ _ ?_
  exact @okL_nil _ _ _
  refine @okV_cons _ _ _ _ _ _ _ ?_ ?_ (fun _ => rfl)
  exact @ok_int _ _ _ _ _ _ _ (by rfl)
  refine @okV_cons _ _ _ _ _ _ _ ?_ ?_ (fun _ => rfl)
  refine @ok_bin _ _ _ _ _ _ _ _ _ _ ?_ ?_ (@op_sub _ _ _)
  refine @ok_bin _ _ _ _ _ _ _ _ _ _ ?_ ?_ (@op_shl _ _ _)
  exact @ok_int _ _ _ _ _ _ _ (by rfl)
  exact (@ok_var _ _ _ hF _ _ _ _ at2 (by kernel_rfl))
  exact @ok_int _ _ _ _ _ _ _ (by rfl)
  exact @okV_nil _ _ _
  refine @okB_cons _ _ _ _ _ _ _ ?_ ?_
  refine @ok_for _ _ _ _ _ _ _ _ _ _ ?_ (step1_nx _) ?_ (fun _ _ _ _ => rfl)
  refine @okI_seq _ _ _ hF _ _ _ _ _ _ at6 (by kernel_rfl) ?_
  exact (@ok_var _ _ _ hF _ _ _ _ at0 (by kernel_rfl))
  refine @okB_cons _ _ _ _ _ _ _ ?_ ?_
  refine @ok_aug _ _ _ hF _ _ _ _ _ _ _ _ _ at4 (by kernel_rfl) ?_ (@op_iadd _ _ _)
  refine @ok_bin _ _ _ _ _ _ _ _ _ _ ?_ ?_ (@op_mul _ _ _)
  exact (@ok_var _ _ _ hF _ _ _ _ at6 (by kernel_rfl))
  exact (@ok_var _ _ _ hF _ _ _ _ at1 (by kernel_rfl))
  refine @okB_cons _ _ _ _ _ _ _ ?_ ?_
  refine @ok_app _ _ _ hF _ _ _ _ _ _ _ _ _ at3 (by kernel_rfl) ?_ (fun _ => rfl) (fun _ => rfl) (by intro L a cd; kernel_rfl) (by intro L a cd; kernel_rfl)
  refine @ok_bin _ _ _ _ _ _ _ _ _ _ ?_ ?_ (@op_and _ _ _)
  exact (@ok_var _ _ _ hF _ _ _ _ at4 (by kernel_rfl))
  exact (@ok_var _ _ _ hF _ _ _ _ at5 (by kernel_rfl))
  refine @okB_cons _ _ _ _ _ _ _ ?_ ?_
  refine @ok_aug _ _ _ hF _ _ _ _ _ _ _ _ _ at4 (by kernel_rfl) ?_ (@op_ishr _ _ _)
  exact (@ok_var _ _ _ hF _ _ _ _ at2 (by kernel_rfl))
  exact @okB_nil _ _ _
  refine @okB_cons _ _ _ _ _ _ _ ?_ ?_
  refine @ok_ifs _ _ _ _ _ _ _ _ _ _ ?_ ?_ ?_
  refine @ok_cmp _ _ _ _ _ _ _ _ _ _ ?_ ?_ (@c_gt _ _ _) (by rfl)
  exact (@ok_var _ _ _ hF _ _ _ _ at4 (by kernel_rfl))
  exact @ok_int _ _ _ _ _ _ _ (by rfl)
  refine @okB_cons _ _ _ _ _ _ _ ?_ ?_
  refine @ok_app _ _ _ hF _ _ _ _ _ _ _ _ _ at3 (by kernel_rfl) ?_ (fun _ => rfl) (fun _ => rfl) (by intro L a cd; kernel_rfl) (by intro L a cd; kernel_rfl)
  exact (@ok_var _ _ _ hF _ _ _ _ at4 (by kernel_rfl))
  exact @okB_nil _ _ _
  exact @okB_nil _ _ _
  refine @okB_cons _ _ _ _ _ _ _ ?_ ?_
  refine @ok_ret _ _ _ _ _ _ ?_
  exact (@ok_var _ _ _ hF _ _ _ _ at3 (by kernel_rfl))
  exact @okB_nil _ _ _
theorem C_mul_limb {G : GE} (hA : GAll G) : CallOk G 2 (G.fa 12) c_mul_limb :=
  callOk_of (n := 1) (F := F_mul_limb) (k := 3) hA.ok hF_mul_limb (hA.at 10) (s_mul_limb hA) (by decide) (fun pm cd doc vs e => by
    match vs, e with
    | [v0, v1, v2], _ => rfl) (by decide +kernel) (by kernel_rfl) (by kernel_rfl)
def F_divrem_limb : FC := { name := "divrem_limb", scope := scopeOf (fdOf 11), names := ["a", "limb", "w", "found", "rest", "at"] }
theorem hF_divrem_limb : F_divrem_limb.Ok := ⟨by kernel_rfl, by decide +kernel, by decide +kernel⟩
theorem s_divrem_limb {G : GE} (hA : GAll G) : OkB G F_divrem_limb 2 (bodyOf (fdOf 11)) m_divrem_limb := by
  have hF := hF_divrem_limb
  have hG := hA.ok
  unfold m_divrem_limb
  refine @okB_cons _ _ _ _ _ _ _ ?_ ?_
  refine @ok_ifs _ _ _ _ _ _ _ _ _ _ ?_ ?_ ?_
  refine @ok_cmp _ _ _ _ _ _ _ _ _ _ ?_ ?_ (@c_eq _ _ _) (by rfl)
  exact (@ok_var _ _ _ hF _ _ _ _ at1 (by kernel_rfl))
  exact @ok_int _ _ _ _ _ _ _ (by rfl)
  refine @okB_cons _ _ _ _ _ _ _ ?_ ?_
  exact @ok_fail _ _ _ _
  exact @okB_nil _ _ _
  exact @okB_nil _ _ _
  refine @okB_cons _ _ _ _ _ _ _ ?_ ?_
  refine @ok_setTupR _ _ _ hF _ _ _ ["found", "rest"] _ _ _ _ _ _ (@TgN.cons _ _ _ _ _ _ at4 (by kernel_rfl) (@TgN.cons _ _ _ _ _ _ at3 (by kernel_rfl) (@TgN.nil _))) ?_ (Nat.le_of_ble_eq_true rfl) (by rfl) (by intro L a cd; kernel_rfl) (by intro L a cd; kernel_rfl)
  refine @okV_cons _ _ _ _ _ _ _ ?_ ?_ (fun _ => rfl)
  refine @ok_bin _ _ _ _ _ _ _ _ _ _ ?_ ?_ (@op_mul _ _ _)
  refine @ok_list _ _ _ _ _ _ ?_
  refine @okL_cons _ _ _ _ _ _ _ ?_ ?_ (fun _ => rfl)
  exact @ok_int _ _ _ _ _ _ _ (by rfl)
  exact @okL_nil _ _ _
  refine @ok_len _ _ _ hF hG _ _ _ _ ?_ (by kernel_rfl) (fun _ => rfl)
  exact (@ok_var _ _ _ hF _ _ _ _ at0 (by kernel_rfl))
  refine @okV_cons _ _ _ _ _ _ _ ?_ ?_ (fun _ => rfl)
  exact @ok_int _ _ _ _ _ _ _ (by rfl)
  exact @okV_nil _ _ _
  refine @okB_cons _ _ _ _ _ _ _ ?_ ?_
  refine @ok_for _ _ _ _ _ _ _ _ _ _ ?_ (step1_nx _) ?_ (fun _ _ _ _ => rfl)
  refine @okI_rangeD _ _ _ hF hG _ _ _ _ _ _ _ _ _ _ _ at5 (by kernel_rfl) ?_ ?_ (@ok_neg _ _ _ _ _ _ (@ok_int _ _ _ _ _ _ _ (by rfl))) (by kernel_rfl) (fun _ => rfl) (fun _ => rfl) (fun _ => rfl)
  refine @ok_bin _ _ _ _ _ _ _ _ _ _ ?_ ?_ (@op_sub _ _ _)
  refine @ok_len _ _ _ hF hG _ _ _ _ ?_ (by kernel_rfl) (fun _ => rfl)
  exact (@ok_var _ _ _ hF _ _ _ _ at0 (by kernel_rfl))
  exact @ok_int _ _ _ _ _ _ _ (by rfl)
  refine @ok_neg _ _ _ _ _ _ ?_
  exact @ok_int _ _ _ _ _ _ _ (by rfl)
  refine @okB_cons _ _ _ _ _ _ _ ?_ ?_
  refine @ok_set _ _ _ hF _ _ _ _ _ _ _ at4 (by kernel_rfl) ?_ (by intro L a cd; kernel_rfl)
  refine @ok_bin _ _ _ _ _ _ _ _ _ _ ?_ ?_ (@op_or _ _ _)
  refine @ok_bin _ _ _ _ _ _ _ _ _ _ ?_ ?_ (@op_shl _ _ _)
  exact (@ok_var _ _ _ hF _ _ _ _ at4 (by kernel_rfl))
  exact (@ok_var _ _ _ hF _ _ _ _ at2 (by kernel_rfl))
  refine @ok_idx _ _ _ _ _ _ _ _ ?_ ?_ (fun _ _ => rfl)
  exact (@ok_var _ _ _ hF _ _ _ _ at0 (by kernel_rfl))
  exact (@ok_var _ _ _ hF _ _ _ _ at5 (by kernel_rfl))
  refine @okB_cons _ _ _ _ _ _ _ ?_ ?_
  refine @ok_setIdx _ _ _ hF _ _ _ _ _ _ _ _ _ _ at3 (by kernel_rfl) ?_ ?_ (by intro L a cd; kernel_rfl)
  exact (@ok_var _ _ _ hF _ _ _ _ at5 (by kernel_rfl))
  refine @ok_bin _ _ _ _ _ _ _ _ _ _ ?_ ?_ (@op_div _ _ _)
  exact (@ok_var _ _ _ hF _ _ _ _ at4 (by kernel_rfl))
  exact (@ok_var _ _ _ hF _ _ _ _ at1 (by kernel_rfl))
  refine @okB_cons _ _ _ _ _ _ _ ?_ ?_
  refine @ok_aug _ _ _ hF _ _ _ _ _ _ _ _ _ at4 (by kernel_rfl) ?_ (@op_imod _ _ _)
  exact (@ok_var _ _ _ hF _ _ _ _ at1 (by kernel_rfl))
  exact @okB_nil _ _ _
  refine @okB_cons _ _ _ _ _ _ _ ?_ ?_
  refine @ok_ret _ _ _ _ _ _ ?_
  refine @ok_tup _ _ _ _ _ _ _ ?_ (Nat.le_of_ble_eq_true rfl)
  refine @okL_cons _ _ _ _ _ _ _ ?_ ?_ (fun _ => rfl)
  refine @ok_call _ _ _ hF hG _ _ _ _ _ _ _ _ ?_ ((C_normal hA).mono (by omega)) (by kernel_rfl) (by kernel_rfl) (hA.mg4) (fun _ => rfl)
  refine @okL_cons _ _ _ _ _ _ _ ?_ ?_ (fun _ => rfl)
  exact (@ok_var _ _ _ hF _ _ _ _ at3 (by kernel_rfl))
  exact @okL_nil _ _ _
  refine @okL_cons _ _ _ _ _ _ _ ?_ ?_ (fun _ => rfl)
  exact (@ok_var _ _ _ hF _ _ _ _ at4 (by kernel_rfl))
  exact @okL_nil _ _ _
  exact @okB_nil _ _ _
theorem C_divrem_limb {G : GE} (hA : GAll G) : CallOk G 3 (G.fa 13) c_divrem_limb :=
  callOk_of (n := 2) (F := F_divrem_limb) (k := 3) hA.ok hF_divrem_limb (hA.at 11) (s_divrem_limb hA) (by decide) (fun pm cd doc vs e => by
    match vs, e with
    | [v0, v1, v2], _ => rfl) (by decide +kernel) (by kernel_rfl) (by kernel_rfl)
def F_shift_left : FC := { name := "shift_left", scope := scopeOf (fdOf 12), names := ["a", "n", "w", "spots", "few", "found", "carry", "mask", "one"] }
theorem hF_shift_left : F_shift_left.Ok := ⟨by kernel_rfl, by decide +kernel, by decide +kernel⟩
theorem s_shift_left {G : GE} (hA : GAll G) : OkB G F_shift_left 1 (bodyOf (fdOf 12)) m_shift_left := by
  have hF := hF_shift_left
  have hG := hA.ok
  unfold m_shift_left
  refine @okB_cons _ _ _ _ _ _ _ ?_ ?_
  refine @ok_ifs _ _ _ _ _ _ _ _ _ _ ?_ ?_ ?_
  refine @ok_cmp _ _ _ _ _ _ _ _ _ _ ?_ ?_ (@c_eq _ _ _) (by rfl)
  refine @ok_len _ _ _ hF hG _ _ _ _ ?_ (by kernel_rfl) (fun _ => rfl)
  exact (@ok_var _ _ _ hF _ _ _ _ at0 (by kernel_rfl))
  exact @ok_int _ _ _ _ _ _ _ (by rfl)
  refine @okB_cons _ _ _ _ _ _ _ ?_ ?_
  refine @ok_ret _ _ _ _ _ _ ?_
  refine @ok_list _ _ _ _ _ _ ?_
  exact @okL_nil _ _ _
  exact @okB_nil _ _ _
  exact @okB_nil _ _ _
  refine @okB_cons _ _ _ _ _ _ _ ?_ ?_
  refine @ok_setTupR _ _ _ hF _ _ _ ["spots", "few"] _ _ _ _ _ _ (@TgN.cons _ _ _ _ _ _ at4 (by kernel_rfl) (@TgN.cons _ _ _ _ _ _ at3 (by kernel_rfl) (@TgN.nil _))) ?_ (Nat.le_of_ble_eq_true rfl) (by rfl) (by intro L a cd; kernel_rfl) (by intro L a cd; kernel_rfl)
  refine @okV_cons _ _ _ _ _ _ _ ?_ ?_ (fun _ => rfl)
  refine @ok_bin _ _ _ _ _ _ _ _ _ _ ?_ ?_ (@op_div _ _ _)
  exact (@ok_var _ _ _ hF _ _ _ _ at1 (by kernel_rfl))
  exact (@ok_var _ _ _ hF _ _ _ _ at2 (by kernel_rfl))
  refine @okV_cons _ _ _ _ _ _ _ ?_ ?_ (fun _ => rfl)
  refine @ok_bin _ _ _ _ _ _ _ _ _ _ ?_ ?_ (@op_mod _ _ _)
  exact (@ok_var _ _ _ hF _ _ _ _ at1 (by kernel_rfl))
  exact (@ok_var _ _ _ hF _ _ _ _ at2 (by kernel_rfl))
  exact @okV_nil _ _ _
  refine @okB_cons _ _ _ _ _ _ _ ?_ ?_
  refine @ok_setTupR _ _ _ hF _ _ _ ["found", "carry", "mask"] _ _ _ _ _ _ (@TgN.cons _ _ _ _ _ _ at7 (by kernel_rfl) (@TgN.cons _ _ _ _ _ _ at6 (by kernel_rfl) (@TgN.cons _ _ _ _ _ _ at5 (by kernel_rfl) (@TgN.nil _)))) ?_ (Nat.le_of_ble_eq_true rfl) (by rfl) (by intro L a cd; kernel_rfl) (by intro L a cd; kernel_rfl)
  refine @okV_cons _ _ _ _ _ _ _ ?_ ?_ (fun _ => rfl)
  refine @ok_bin _ _ _ _ _ _ _ _ _ _ ?_ ?_ (@op_mul _ _ _)
  refine @ok_list _ _ _ _ _ _ ?_
  refine @okL_cons _ _ _ _ _ _ _ ?_ ?_ (fun _ => rfl)
  exact @ok_int _ _ _ _ _ _ _ (by rfl)
  exact @okL_nil _ _ _
  exact (@ok_var _ _ _ hF _ _ _ _ at3 (by kernel_rfl))
  refine @okV_cons _ _ _ _ _ _ _ ?_ ?_ (fun _ => rfl)
  exact @ok_int _ _ _ _ _ _ _ (by rfl)
  refine @okV_cons _ _ _ _ _ _ _ ?_ ?_ (fun _ => rfl)
  refine @ok_bin _ _ _ _ _ _ _ _ _ _ ?_ ?_ (@op_sub _ _ _)
  refine @ok_bin _ _ _ _ _ _ _ _ _ _ ?_ ?_ (@op_shl _ _ _)
  exact @ok_int _ _ _ _ _ _ _ (by rfl)
  exact (@ok_var _ _ _ hF _ _ _ _ at2 (by kernel_rfl))
  exact @ok_int _ _ _ _ _ _ _ (by rfl)
  exact @okV_nil _ _ _
  refine @okB_cons _ _ _ _ _ _ _ ?_ ?_
  refine @ok_for _ _ _ _ _ _ _ _ _ _ ?_ (step1_nx _) ?_ (fun _ _ _ _ => rfl)
  refine @okI_seq _ _ _ hF _ _ _ _ _ _ at8 (by kernel_rfl) ?_
  exact (@ok_var _ _ _ hF _ _ _ _ at0 (by kernel_rfl))
  refine @okB_cons _ _ _ _ _ _ _ ?_ ?_
  refine @ok_aug _ _ _ hF _ _ _ _ _ _ _ _ _ at6 (by kernel_rfl) ?_ (@op_ior _ _ _)
  refine @ok_bin _ _ _ _ _ _ _ _ _ _ ?_ ?_ (@op_shl _ _ _)
  exact (@ok_var _ _ _ hF _ _ _ _ at8 (by kernel_rfl))
  exact (@ok_var _ _ _ hF _ _ _ _ at4 (by kernel_rfl))
  refine @okB_cons _ _ _ _ _ _ _ ?_ ?_
  refine @ok_app _ _ _ hF _ _ _ _ _ _ _ _ _ at5 (by kernel_rfl) ?_ (fun _ => rfl) (fun _ => rfl) (by intro L a cd; kernel_rfl) (by intro L a cd; kernel_rfl)
  refine @ok_bin _ _ _ _ _ _ _ _ _ _ ?_ ?_ (@op_and _ _ _)
  exact (@ok_var _ _ _ hF _ _ _ _ at6 (by kernel_rfl))
  exact (@ok_var _ _ _ hF _ _ _ _ at7 (by kernel_rfl))
  refine @okB_cons _ _ _ _ _ _ _ ?_ ?_
  refine @ok_aug _ _ _ hF _ _ _ _ _ _ _ _ _ at6 (by kernel_rfl) ?_ (@op_ishr _ _ _)
  exact (@ok_var _ _ _ hF _ _ _ _ at2 (by kernel_rfl))
  exact @okB_nil _ _ _
  refine @okB_cons _ _ _ _ _ _ _ ?_ ?_
  refine @ok_ifs _ _ _ _ _ _ _ _ _ _ ?_ ?_ ?_
  refine @ok_cmp _ _ _ _ _ _ _ _ _ _ ?_ ?_ (@c_gt _ _ _) (by rfl)
  exact (@ok_var _ _ _ hF _ _ _ _ at6 (by kernel_rfl))
  exact @ok_int _ _ _ _ _ _ _ (by rfl)
  refine @okB_cons _ _ _ _ _ _ _ ?_ ?_
  refine @ok_app _ _ _ hF _ _ _ _ _ _ _ _ _ at5 (by kernel_rfl) ?_ (fun _ => rfl) (fun _ => rfl) (by intro L a cd; kernel_rfl) (by intro L a cd; kernel_rfl)
  exact (@ok_var _ _ _ hF _ _ _ _ at6 (by kernel_rfl))
  exact @okB_nil _ _ _
  exact @okB_nil _ _ _
  refine @okB_cons _ _ _ _ _ _ _ ?_ ?_
  refine @ok_ret _ _ _ _ _ _ ?_
  exact (@ok_var _ _ _ hF _ _ _ _ at5 (by kernel_rfl))
  exact @okB_nil _ _ _
theorem C_shift_left {G : GE} (hA : GAll G) : CallOk G 2 (G.fa 14) c_shift_left :=
  callOk_of (n := 1) (F := F_shift_left) (k := 3) hA.ok hF_shift_left (hA.at 12) (s_shift_left hA) (by decide) (fun pm cd doc vs e => by
    match vs, e with
    | [v0, v1, v2], _ => rfl) (by decide +kernel) (by kernel_rfl) (by kernel_rfl)
def F_shift_right : FC := { name := "shift_right", scope := scopeOf (fdOf 13), names := ["a", "n", "w", "spots", "few", "found", "mask", "at", "above"] }
theorem hF_shift_right : F_shift_right.Ok := ⟨by kernel_rfl, by decide +kernel, by decide +kernel⟩
theorem s_shift_right {G : GE} (hA : GAll G) : OkB G F_shift_right 2 (bodyOf (fdOf 13)) m_shift_right := by
  have hF := hF_shift_right
  have hG := hA.ok
  unfold m_shift_right
  refine @okB_cons _ _ _ _ _ _ _ ?_ ?_
  refine @ok_setTupR _ _ _ hF _ _ _ ["spots", "few"] _ _ _ _ _ _ (@TgN.cons _ _ _ _ _ _ at4 (by kernel_rfl) (@TgN.cons _ _ _ _ _ _ at3 (by kernel_rfl) (@TgN.nil _))) ?_ (Nat.le_of_ble_eq_true rfl) (by rfl) (by intro L a cd; kernel_rfl) (by intro L a cd; kernel_rfl)
  refine @okV_cons _ _ _ _ _ _ _ ?_ ?_ (fun _ => rfl)
  refine @ok_bin _ _ _ _ _ _ _ _ _ _ ?_ ?_ (@op_div _ _ _)
  exact (@ok_var _ _ _ hF _ _ _ _ at1 (by kernel_rfl))
  exact (@ok_var _ _ _ hF _ _ _ _ at2 (by kernel_rfl))
  refine @okV_cons _ _ _ _ _ _ _ ?_ ?_ (fun _ => rfl)
  refine @ok_bin _ _ _ _ _ _ _ _ _ _ ?_ ?_ (@op_mod _ _ _)
  exact (@ok_var _ _ _ hF _ _ _ _ at1 (by kernel_rfl))
  exact (@ok_var _ _ _ hF _ _ _ _ at2 (by kernel_rfl))
  exact @okV_nil _ _ _
  refine @okB_cons _ _ _ _ _ _ _ ?_ ?_
  refine @ok_setTupR _ _ _ hF _ _ _ ["found", "mask"] _ _ _ _ _ _ (@TgN.cons _ _ _ _ _ _ at6 (by kernel_rfl) (@TgN.cons _ _ _ _ _ _ at5 (by kernel_rfl) (@TgN.nil _))) ?_ (Nat.le_of_ble_eq_true rfl) (by rfl) (by intro L a cd; kernel_rfl) (by intro L a cd; kernel_rfl)
  refine @okV_cons _ _ _ _ _ _ _ ?_ ?_ (fun _ => rfl)
  refine @ok_list _ _ _ _ _ _ ?_
  exact @okL_nil _ _ _
  refine @okV_cons _ _ _ _ _ _ _ ?_ ?_ (fun _ => rfl)
  refine @ok_bin _ _ _ _ _ _ _ _ _ _ ?_ ?_ (@op_sub _ _ _)
  refine @ok_bin _ _ _ _ _ _ _ _ _ _ ?_ ?_ (@op_shl _ _ _)
  exact @ok_int _ _ _ _ _ _ _ (by rfl)
  exact (@ok_var _ _ _ hF _ _ _ _ at2 (by kernel_rfl))
  exact @ok_int _ _ _ _ _ _ _ (by rfl)
  exact @okV_nil _ _ _
  refine @okB_cons _ _ _ _ _ _ _ ?_ ?_
  refine @ok_for _ _ _ _ _ _ _ _ _ _ ?_ (step1_nx _) ?_ (fun _ _ _ _ => rfl)
  refine @okI_range2 _ _ _ hF hG _ _ _ _ _ _ _ _ _ _ at7 (by kernel_rfl) ?_ ?_ (by kernel_rfl) (fun _ => rfl) (fun _ => rfl)
  exact (@ok_var _ _ _ hF _ _ _ _ at3 (by kernel_rfl))
  refine @ok_len _ _ _ hF hG _ _ _ _ ?_ (by kernel_rfl) (fun _ => rfl)
  exact (@ok_var _ _ _ hF _ _ _ _ at0 (by kernel_rfl))
  refine @okB_cons _ _ _ _ _ _ _ ?_ ?_
  refine @ok_set _ _ _ hF _ _ _ _ _ _ _ at8 (by kernel_rfl) ?_ (by intro L a cd; kernel_rfl)
  refine @ok_if _ _ _ _ _ _ _ _ _ _ ?_ ?_ ?_
  refine @ok_cmp _ _ _ _ _ _ _ _ _ _ ?_ ?_ (@c_lt _ _ _) (by rfl)
  refine @ok_bin _ _ _ _ _ _ _ _ _ _ ?_ ?_ (@op_add _ _ _)
  exact (@ok_var _ _ _ hF _ _ _ _ at7 (by kernel_rfl))
  exact @ok_int _ _ _ _ _ _ _ (by rfl)
  refine @ok_len _ _ _ hF hG _ _ _ _ ?_ (by kernel_rfl) (fun _ => rfl)
  exact (@ok_var _ _ _ hF _ _ _ _ at0 (by kernel_rfl))
  refine @ok_idx _ _ _ _ _ _ _ _ ?_ ?_ (fun _ _ => rfl)
  exact (@ok_var _ _ _ hF _ _ _ _ at0 (by kernel_rfl))
  refine @ok_bin _ _ _ _ _ _ _ _ _ _ ?_ ?_ (@op_add _ _ _)
  exact (@ok_var _ _ _ hF _ _ _ _ at7 (by kernel_rfl))
  exact @ok_int _ _ _ _ _ _ _ (by rfl)
  exact @ok_int _ _ _ _ _ _ _ (by rfl)
  refine @okB_cons _ _ _ _ _ _ _ ?_ ?_
  refine @ok_app _ _ _ hF _ _ _ _ _ _ _ _ _ at5 (by kernel_rfl) ?_ (fun _ => rfl) (fun _ => rfl) (by intro L a cd; kernel_rfl) (by intro L a cd; kernel_rfl)
  refine @ok_bin _ _ _ _ _ _ _ _ _ _ ?_ ?_ (@op_and _ _ _)
  refine @ok_bin _ _ _ _ _ _ _ _ _ _ ?_ ?_ (@op_or _ _ _)
  refine @ok_bin _ _ _ _ _ _ _ _ _ _ ?_ ?_ (@op_shr _ _ _)
  refine @ok_idx _ _ _ _ _ _ _ _ ?_ ?_ (fun _ _ => rfl)
  exact (@ok_var _ _ _ hF _ _ _ _ at0 (by kernel_rfl))
  exact (@ok_var _ _ _ hF _ _ _ _ at7 (by kernel_rfl))
  exact (@ok_var _ _ _ hF _ _ _ _ at4 (by kernel_rfl))
  refine @ok_bin _ _ _ _ _ _ _ _ _ _ ?_ ?_ (@op_shl _ _ _)
  exact (@ok_var _ _ _ hF _ _ _ _ at8 (by kernel_rfl))
  refine @ok_bin _ _ _ _ _ _ _ _ _ _ ?_ ?_ (@op_sub _ _ _)
  exact (@ok_var _ _ _ hF _ _ _ _ at2 (by kernel_rfl))
  exact (@ok_var _ _ _ hF _ _ _ _ at4 (by kernel_rfl))
  exact (@ok_var _ _ _ hF _ _ _ _ at6 (by kernel_rfl))
  exact @okB_nil _ _ _
  refine @okB_cons _ _ _ _ _ _ _ ?_ ?_
  refine @ok_ret _ _ _ _ _ _ ?_
  refine @ok_call _ _ _ hF hG _ _ _ _ _ _ _ _ ?_ ((C_normal hA).mono (by omega)) (by kernel_rfl) (by kernel_rfl) (hA.mg4) (fun _ => rfl)
  refine @okL_cons _ _ _ _ _ _ _ ?_ ?_ (fun _ => rfl)
  exact (@ok_var _ _ _ hF _ _ _ _ at5 (by kernel_rfl))
  exact @okL_nil _ _ _
  exact @okB_nil _ _ _
theorem C_shift_right {G : GE} (hA : GAll G) : CallOk G 3 (G.fa 15) c_shift_right :=
  callOk_of (n := 2) (F := F_shift_right) (k := 3) hA.ok hF_shift_right (hA.at 13) (s_shift_right hA) (by decide) (fun pm cd doc vs e => by
    match vs, e with
    | [v0, v1, v2], _ => rfl) (by decide +kernel) (by kernel_rfl) (by kernel_rfl)
def F_bits : FC := { name := "bits", scope := scopeOf (fdOf 14), names := ["a", "w"] }
theorem hF_bits : F_bits.Ok := ⟨by kernel_rfl, by decide +kernel, by decide +kernel⟩
theorem s_bits {G : GE} (hA : GAll G) : OkB G F_bits 1 (bodyOf (fdOf 14)) m_bits := by
  have hF := hF_bits
  have hG := hA.ok
  unfold m_bits
  refine @okB_cons _ _ _ _ _ _ _ ?_ ?_
  refine @ok_ret _ _ _ _ _ _ ?_
  refine @ok_if _ _ _ _ _ _ _ _ _ _ ?_ ?_ ?_
  refine @ok_cmp _ _ _ _ _ _ _ _ _ _ ?_ ?_ (@c_gt _ _ _) (by rfl)
  refine @ok_len _ _ _ hF hG _ _ _ _ ?_ (by kernel_rfl) (fun _ => rfl)
  exact (@ok_var _ _ _ hF _ _ _ _ at0 (by kernel_rfl))
  exact @ok_int _ _ _ _ _ _ _ (by rfl)
  refine @ok_bin _ _ _ _ _ _ _ _ _ _ ?_ ?_ (@op_add _ _ _)
  refine @ok_bin _ _ _ _ _ _ _ _ _ _ ?_ ?_ (@op_mul _ _ _)
  refine @ok_bin _ _ _ _ _ _ _ _ _ _ ?_ ?_ (@op_sub _ _ _)
  refine @ok_len _ _ _ hF hG _ _ _ _ ?_ (by kernel_rfl) (fun _ => rfl)
  exact (@ok_var _ _ _ hF _ _ _ _ at0 (by kernel_rfl))
  exact @ok_int _ _ _ _ _ _ _ (by rfl)
  exact (@ok_var _ _ _ hF _ _ _ _ at1 (by kernel_rfl))
  refine @ok_bl _ _ _ _ _ _ _ ?_ (fun _ => rfl)
  refine @ok_idx _ _ _ _ _ _ _ _ ?_ ?_ (fun _ _ => rfl)
  exact (@ok_var _ _ _ hF _ _ _ _ at0 (by kernel_rfl))
  refine @ok_neg _ _ _ _ _ _ ?_
  exact @ok_int _ _ _ _ _ _ _ (by rfl)
  exact @ok_int _ _ _ _ _ _ _ (by rfl)
  exact @okB_nil _ _ _
theorem C_bits {G : GE} (hA : GAll G) : CallOk G 2 (G.fa 16) c_bits :=
  callOk_of (n := 1) (F := F_bits) (k := 2) hA.ok hF_bits (hA.at 14) (s_bits hA) (by decide) (fun pm cd doc vs e => by
    match vs, e with
    | [v0, v1], _ => rfl) (by decide +kernel) (by kernel_rfl) (by kernel_rfl)
def F_plain_of : FC := { name := "plain_of", scope := scopeOf (fdOf 16), names := ["a", "w", "found", "limb"] }
theorem hF_plain_of : F_plain_of.Ok := ⟨by kernel_rfl, by decide +kernel, by decide +kernel⟩
theorem s_plain_of {G : GE} (hA : GAll G) : OkB G F_plain_of 1 (bodyOf (fdOf 16)) m_plain_of := by
  have hF := hF_plain_of
  have hG := hA.ok
  unfold m_plain_of
  refine @okB_cons _ _ _ _ _ _ _ ?_ ?_
  refine @ok_set _ _ _ hF _ _ _ _ _ _ _ at2 (by kernel_rfl) ?_ (by intro L a cd; kernel_rfl)
  exact @ok_int _ _ _ _ _ _ _ (by rfl)
  refine @okB_cons _ _ _ _ _ _ _ ?_ ?_
  refine @ok_for _ _ _ _ _ _ _ _ _ _ ?_ (step1_nx _) ?_ (fun _ _ _ _ => rfl)
  refine @okI_seq _ _ _ hF _ _ _ _ _ _ at3 (by kernel_rfl) ?_
  refine @ok_rev _ _ _ _ _ _ _ _ ?_ (@ok_neg _ _ _ _ _ _ (@ok_int _ _ _ _ _ _ _ (by rfl))) (fun _ _ => rfl)
  exact (@ok_var _ _ _ hF _ _ _ _ at0 (by kernel_rfl))
  refine @okB_cons _ _ _ _ _ _ _ ?_ ?_
  refine @ok_set _ _ _ hF _ _ _ _ _ _ _ at2 (by kernel_rfl) ?_ (by intro L a cd; kernel_rfl)
  refine @ok_bin _ _ _ _ _ _ _ _ _ _ ?_ ?_ (@op_add _ _ _)
  refine @ok_bin _ _ _ _ _ _ _ _ _ _ ?_ ?_ (@op_shl _ _ _)
  exact (@ok_var _ _ _ hF _ _ _ _ at2 (by kernel_rfl))
  exact (@ok_var _ _ _ hF _ _ _ _ at1 (by kernel_rfl))
  exact (@ok_var _ _ _ hF _ _ _ _ at3 (by kernel_rfl))
  exact @okB_nil _ _ _
  refine @okB_cons _ _ _ _ _ _ _ ?_ ?_
  refine @ok_ret _ _ _ _ _ _ ?_
  exact (@ok_var _ _ _ hF _ _ _ _ at2 (by kernel_rfl))
  exact @okB_nil _ _ _
theorem C_plain_of {G : GE} (hA : GAll G) : CallOk G 2 (G.fa 18) c_plain_of :=
  callOk_of (n := 1) (F := F_plain_of) (k := 2) hA.ok hF_plain_of (hA.at 16) (s_plain_of hA) (by decide) (fun pm cd doc vs e => by
    match vs, e with
    | [v0, v1], _ => rfl) (by decide +kernel) (by kernel_rfl) (by kernel_rfl)
def F_check_base : FC := { name := "check_base", scope := scopeOf (fdOf 17), names := ["base"] }
theorem hF_check_base : F_check_base.Ok := ⟨by kernel_rfl, by decide +kernel, by decide +kernel⟩
theorem s_check_base {G : GE} (hA : GAll G) : OkB G F_check_base 1 (bodyOf (fdOf 17)) m_check_base := by
  have hF := hF_check_base
  have hG := hA.ok
  unfold m_check_base
  refine @okB_cons _ _ _ _ _ _ _ ?_ ?_
  refine @ok_ifs _ _ _ _ _ _ _ _ _ _ ?_ ?_ ?_
  refine @ok_cmp _ _ _ _ _ _ _ _ _ _ ?_ ?_ (@c_lt _ _ _) (by rfl)
  exact (@ok_var _ _ _ hF _ _ _ _ at0 (by kernel_rfl))
  exact @ok_int _ _ _ _ _ _ _ (by rfl)
  refine @okB_cons _ _ _ _ _ _ _ ?_ ?_
  exact @ok_fail _ _ _ _
  exact @okB_nil _ _ _
  exact @okB_nil _ _ _
  exact @okB_nil _ _ _
theorem C_check_base {G : GE} (hA : GAll G) : CallOk G 2 (G.fa 19) c_check_base :=
  callOk_of (n := 1) (F := F_check_base) (k := 1) hA.ok hF_check_base (hA.at 17) (s_check_base hA) (by decide) (fun pm cd doc vs e => by
    match vs, e with
    | [v0], _ => rfl) (by decide +kernel) (by kernel_rfl) (by kernel_rfl)
def F_mul_school : FC := { name := "mul_school", scope := scopeOf (fdOf 27), names := ["a", "b", "w", "found", "mask", "at", "limb", "carry", "spot", "other"] }
theorem hF_mul_school : F_mul_school.Ok := ⟨by kernel_rfl, by decide +kernel, by decide +kernel⟩
theorem s_mul_school {G : GE} (hA : GAll G) : OkB G F_mul_school 2 (bodyOf (fdOf 27)) m_mul_school := by
  have hF := hF_mul_school
  have hG := hA.ok
  unfold m_mul_school
  refine @okB_cons _ _ _ _ _ _ _ ?_ ?_
  refine @ok_setTupR _ _ _ hF _ _ _ ["found", "mask"] _ _ _ _ _ _ (@TgN.cons _ _ _ _ _ _ at4 (by kernel_rfl) (@TgN.cons _ _ _ _ _ _ at3 (by kernel_rfl) (@TgN.nil _))) ?_ (Nat.le_of_ble_eq_true rfl) (by rfl) (by intro L a cd; kernel_rfl) (by intro L a cd; kernel_rfl)
  refine @okV_cons _ _ _ _ _ _ _ ?_ ?_ (fun _ => rfl)
  refine @ok_bin _ _ _ _ _ _ _ _ _ _ ?_ ?_ (@op_mul _ _ _)
  refine @ok_list _ _ _ _ _ _ ?_
  refine @okL_cons _ _ _ _ _ _ _ ?_ ?_ (fun _ => rfl)
  exact @ok_int _ _ _ _ _ _ _ (by rfl)
  exact @okL_nil _ _ _
  refine @ok_bin _ _ _ _ _ _ _ _ _ _ ?_ ?_ (@op_add _ _ _)
  refine @ok_len _ _ _ hF hG _ _ _ _ ?_ (by kernel_rfl) (fun _ => rfl)
  exact (@ok_var _ _ _ hF _ _ _ _ at0 (by kernel_rfl))
  refine @ok_len _ _ _ hF hG _ _ _ _ ?_ (by kernel_rfl) (fun _ => rfl)
  exact (@ok_var _ _ _ hF _ _ _ _ at1 (by kernel_rfl))
  refine @okV_cons _ _ _ _ _ _ _ ?_ ?_ (fun _ => rfl)
  refine @ok_bin _ _ _ _ _ _ _ _ _ _ ?_ ?_ (@op_sub _ _ _)
  refine @ok_bin _ _ _ _ _ _ _ _ _ _ ?_ ?_ (@op_shl _ _ _)
  exact @ok_int _ _ _ _ _ _ _ (by rfl)
  exact (@ok_var _ _ _ hF _ _ _ _ at2 (by kernel_rfl))
  exact @ok_int _ _ _ _ _ _ _ (by rfl)
  exact @okV_nil _ _ _
  refine @okB_cons _ _ _ _ _ _ _ ?_ ?_
  refine @ok_for _ _ _ _ _ _ _ _ _ _ ?_ (step2_nx _ _) ?_ (fun _ _ _ _ => rfl)
  refine @okI_enum _ _ _ hF hG _ _ _ _ _ _ _ _ _ _ _ _ _ _ at5 (by kernel_rfl) at6 (by kernel_rfl) ?_ (by kernel_rfl) (fun _ => rfl)
  exact (@ok_var _ _ _ hF _ _ _ _ at0 (by kernel_rfl))
  refine @okB_cons _ _ _ _ _ _ _ ?_ ?_
  refine @ok_set _ _ _ hF _ _ _ _ _ _ _ at7 (by kernel_rfl) ?_ (by intro L a cd; kernel_rfl)
  exact @ok_int _ _ _ _ _ _ _ (by rfl)
  refine @okB_cons _ _ _ _ _ _ _ ?_ ?_
  refine @ok_for _ _ _ _ _ _ _ _ _ _ ?_ (step2_nx _ _) ?_ (fun _ _ _ _ => rfl)
  refine @okI_enum _ _ _ hF hG _ _ _ _ _ _ _ _ _ _ _ _ _ _ at8 (by kernel_rfl) at9 (by kernel_rfl) ?_ (by kernel_rfl) (fun _ => rfl)
  exact (@ok_var _ _ _ hF _ _ _ _ at1 (by kernel_rfl))
  refine @okB_cons _ _ _ _ _ _ _ ?_ ?_
  refine @ok_aug _ _ _ hF _ _ _ _ _ _ _ _ _ at7 (by kernel_rfl) ?_ (@op_iadd _ _ _)
  refine @ok_bin _ _ _ _ _ _ _ _ _ _ ?_ ?_ (@op_add _ _ _)
  refine @ok_idx _ _ _ _ _ _ _ _ ?_ ?_ (fun _ _ => rfl)
  exact (@ok_var _ _ _ hF _ _ _ _ at3 (by kernel_rfl))
  refine @ok_bin _ _ _ _ _ _ _ _ _ _ ?_ ?_ (@op_add _ _ _)
  exact (@ok_var _ _ _ hF _ _ _ _ at5 (by kernel_rfl))
  exact (@ok_var _ _ _ hF _ _ _ _ at8 (by kernel_rfl))
  refine @ok_bin _ _ _ _ _ _ _ _ _ _ ?_ ?_ (@op_mul _ _ _)
  exact (@ok_var _ _ _ hF _ _ _ _ at6 (by kernel_rfl))
  exact (@ok_var _ _ _ hF _ _ _ _ at9 (by kernel_rfl))
  refine @okB_cons _ _ _ _ _ _ _ ?_ ?_
  refine @ok_setIdx _ _ _ hF _ _ _ _ _ _ _ _ _ _ at3 (by kernel_rfl) ?_ ?_ (by intro L a cd; kernel_rfl)
  refine @ok_bin _ _ _ _ _ _ _ _ _ _ ?_ ?_ (@op_add _ _ _)
  exact (@ok_var _ _ _ hF _ _ _ _ at5 (by kernel_rfl))
  exact (@ok_var _ _ _ hF _ _ _ _ at8 (by kernel_rfl))
  refine @ok_bin _ _ _ _ _ _ _ _ _ _ ?_ ?_ (@op_and _ _ _)
  exact (@ok_var _ _ _ hF _ _ _ _ at7 (by kernel_rfl))
  exact (@ok_var _ _ _ hF _ _ _ _ at4 (by kernel_rfl))
  refine @okB_cons _ _ _ _ _ _ _ ?_ ?_
  refine @ok_aug _ _ _ hF _ _ _ _ _ _ _ _ _ at7 (by kernel_rfl) ?_ (@op_ishr _ _ _)
  exact (@ok_var _ _ _ hF _ _ _ _ at2 (by kernel_rfl))
  exact @okB_nil _ _ _
  refine @okB_cons _ _ _ _ _ _ _ ?_ ?_
  refine @ok_setIdx _ _ _ hF _ _ _ _ _ _ _ _ _ _ at3 (by kernel_rfl) ?_ ?_ (by intro L a cd; kernel_rfl)
  refine @ok_bin _ _ _ _ _ _ _ _ _ _ ?_ ?_ (@op_add _ _ _)
  exact (@ok_var _ _ _ hF _ _ _ _ at5 (by kernel_rfl))
  refine @ok_len _ _ _ hF hG _ _ _ _ ?_ (by kernel_rfl) (fun _ => rfl)
  exact (@ok_var _ _ _ hF _ _ _ _ at1 (by kernel_rfl))
  exact (@ok_var _ _ _ hF _ _ _ _ at7 (by kernel_rfl))
  exact @okB_nil _ _ _
  refine @okB_cons _ _ _ _ _ _ _ ?_ ?_
  refine @ok_ret _ _ _ _ _ _ ?_
  refine @ok_call _ _ _ hF hG _ _ _ _ _ _ _ _ ?_ ((C_normal hA).mono (by omega)) (by kernel_rfl) (by kernel_rfl) (hA.mg4) (fun _ => rfl)
  refine @okL_cons _ _ _ _ _ _ _ ?_ ?_ (fun _ => rfl)
  exact (@ok_var _ _ _ hF _ _ _ _ at3 (by kernel_rfl))
  exact @okL_nil _ _ _
  exact @okB_nil _ _ _
theorem C_mul_school {G : GE} (hA : GAll G) : CallOk G 3 (G.fa 29) c_mul_school :=
  callOk_of (n := 2) (F := F_mul_school) (k := 3) hA.ok hF_mul_school (hA.at 27) (s_mul_school hA) (by decide) (fun pm cd doc vs e => by
    match vs, e with
    | [v0, v1, v2], _ => rfl) (by decide +kernel) (by kernel_rfl) (by kernel_rfl)
def F_take_away : FC := { name := "take_away", scope := scopeOf (fdOf 30), names := ["rest", "b", "limb", "at", "w", "carry", "base", "spot", "other", "here"] }
theorem hF_take_away : F_take_away.Ok := ⟨by kernel_rfl, by decide +kernel, by decide +kernel⟩
theorem s_take_away {G : GE} (hA : GAll G) : OkB G F_take_away 1 (bodyOf (fdOf 30)) m_take_away := by
  have hF := hF_take_away
  have hG := hA.ok
  unfold m_take_away
  refine @okB_cons _ _ _ _ _ _ _ ?_ ?_
  refine @ok_setTupR _ _ _ hF _ _ _ ["carry", "base"] _ _ _ _ _ _ (@TgN.cons _ _ _ _ _ _ at6 (by kernel_rfl) (@TgN.cons _ _ _ _ _ _ at5 (by kernel_rfl) (@TgN.nil _))) ?_ (Nat.le_of_ble_eq_true rfl) (by rfl) (by intro L a cd; kernel_rfl) (by intro L a cd; kernel_rfl)
  refine @okV_cons _ _ _ _ _ _ _ ?_ ?_ (fun _ => rfl)
  exact @ok_int _ _ _ _ _ _ _ (by rfl)
  refine @okV_cons _ _ _ _ _ _ _ ?_ ?_ (fun _ => rfl)
  refine @ok_bin _ _ _ _ _ _ _ _ _ _ ?_ ?_ (@op_shl _ _ _)
  exact @ok_int _ _ _ _ _ _ _ (by rfl)
  exact (@ok_var _ _ _ hF _ _ _ _ at4 (by kernel_rfl))
  exact @okV_nil _ _ _
  refine @okB_cons _ _ _ _ _ _ _ ?_ ?_
  refine @ok_for _ _ _ _ _ _ _ _ _ _ ?_ (step2_nx _ _) ?_ (fun _ _ _ _ => rfl)
  refine @okI_enum _ _ _ hF hG _ _ _ _ _ _ _ _ _ _ _ _ _ _ at7 (by kernel_rfl) at8 (by kernel_rfl) ?_ (by kernel_rfl) (fun _ => rfl)
  exact (@ok_var _ _ _ hF _ _ _ _ at1 (by kernel_rfl))
  refine @okB_cons _ _ _ _ _ _ _ ?_ ?_
  refine @ok_set _ _ _ hF _ _ _ _ _ _ _ at9 (by kernel_rfl) ?_ (by intro L a cd; kernel_rfl)
  refine @ok_bin _ _ _ _ _ _ _ _ _ _ ?_ ?_ (@op_sub _ _ _)
  refine @ok_idx _ _ _ _ _ _ _ _ ?_ ?_ (fun _ _ => rfl)
  exact (@ok_var _ _ _ hF _ _ _ _ at0 (by kernel_rfl))
  refine @ok_bin _ _ _ _ _ _ _ _ _ _ ?_ ?_ (@op_add _ _ _)
  exact (@ok_var _ _ _ hF _ _ _ _ at3 (by kernel_rfl))
  exact (@ok_var _ _ _ hF _ _ _ _ at7 (by kernel_rfl))
  refine @ok_bin _ _ _ _ _ _ _ _ _ _ ?_ ?_ (@op_mod _ _ _)
  refine @ok_bin _ _ _ _ _ _ _ _ _ _ ?_ ?_ (@op_add _ _ _)
  refine @ok_bin _ _ _ _ _ _ _ _ _ _ ?_ ?_ (@op_mul _ _ _)
  exact (@ok_var _ _ _ hF _ _ _ _ at2 (by kernel_rfl))
  exact (@ok_var _ _ _ hF _ _ _ _ at8 (by kernel_rfl))
  exact (@ok_var _ _ _ hF _ _ _ _ at5 (by kernel_rfl))
  exact (@ok_var _ _ _ hF _ _ _ _ at6 (by kernel_rfl))
  refine @okB_cons _ _ _ _ _ _ _ ?_ ?_
  refine @ok_set _ _ _ hF _ _ _ _ _ _ _ at5 (by kernel_rfl) ?_ (by intro L a cd; kernel_rfl)
  refine @ok_bin _ _ _ _ _ _ _ _ _ _ ?_ ?_ (@op_add _ _ _)
  refine @ok_bin _ _ _ _ _ _ _ _ _ _ ?_ ?_ (@op_div _ _ _)
  refine @ok_bin _ _ _ _ _ _ _ _ _ _ ?_ ?_ (@op_add _ _ _)
  refine @ok_bin _ _ _ _ _ _ _ _ _ _ ?_ ?_ (@op_mul _ _ _)
  exact (@ok_var _ _ _ hF _ _ _ _ at2 (by kernel_rfl))
  exact (@ok_var _ _ _ hF _ _ _ _ at8 (by kernel_rfl))
  exact (@ok_var _ _ _ hF _ _ _ _ at5 (by kernel_rfl))
  exact (@ok_var _ _ _ hF _ _ _ _ at6 (by kernel_rfl))
  refine @ok_if _ _ _ _ _ _ _ _ _ _ ?_ ?_ ?_
  refine @ok_cmp _ _ _ _ _ _ _ _ _ _ ?_ ?_ (@c_lt _ _ _) (by rfl)
  exact (@ok_var _ _ _ hF _ _ _ _ at9 (by kernel_rfl))
  exact @ok_int _ _ _ _ _ _ _ (by rfl)
  exact @ok_int _ _ _ _ _ _ _ (by rfl)
  exact @ok_int _ _ _ _ _ _ _ (by rfl)
  refine @okB_cons _ _ _ _ _ _ _ ?_ ?_
  refine @ok_setIdx _ _ _ hF _ _ _ _ _ _ _ _ _ _ at0 (by kernel_rfl) ?_ ?_ (by intro L a cd; kernel_rfl)
  refine @ok_bin _ _ _ _ _ _ _ _ _ _ ?_ ?_ (@op_add _ _ _)
  exact (@ok_var _ _ _ hF _ _ _ _ at3 (by kernel_rfl))
  exact (@ok_var _ _ _ hF _ _ _ _ at7 (by kernel_rfl))
  refine @ok_if _ _ _ _ _ _ _ _ _ _ ?_ ?_ ?_
  refine @ok_cmp _ _ _ _ _ _ _ _ _ _ ?_ ?_ (@c_lt _ _ _) (by rfl)
  exact (@ok_var _ _ _ hF _ _ _ _ at9 (by kernel_rfl))
  exact @ok_int _ _ _ _ _ _ _ (by rfl)
  refine @ok_bin _ _ _ _ _ _ _ _ _ _ ?_ ?_ (@op_add _ _ _)
  exact (@ok_var _ _ _ hF _ _ _ _ at9 (by kernel_rfl))
  exact (@ok_var _ _ _ hF _ _ _ _ at6 (by kernel_rfl))
  exact (@ok_var _ _ _ hF _ _ _ _ at9 (by kernel_rfl))
  exact @okB_nil _ _ _
  refine @okB_cons _ _ _ _ _ _ _ ?_ ?_
  refine @ok_set _ _ _ hF _ _ _ _ _ _ _ at9 (by kernel_rfl) ?_ (by intro L a cd; kernel_rfl)
  refine @ok_bin _ _ _ _ _ _ _ _ _ _ ?_ ?_ (@op_sub _ _ _)
  refine @ok_idx _ _ _ _ _ _ _ _ ?_ ?_ (fun _ _ => rfl)
  exact (@ok_var _ _ _ hF _ _ _ _ at0 (by kernel_rfl))
  refine @ok_bin _ _ _ _ _ _ _ _ _ _ ?_ ?_ (@op_add _ _ _)
  exact (@ok_var _ _ _ hF _ _ _ _ at3 (by kernel_rfl))
  refine @ok_len _ _ _ hF hG _ _ _ _ ?_ (by kernel_rfl) (fun _ => rfl)
  exact (@ok_var _ _ _ hF _ _ _ _ at1 (by kernel_rfl))
  exact (@ok_var _ _ _ hF _ _ _ _ at5 (by kernel_rfl))
  refine @okB_cons _ _ _ _ _ _ _ ?_ ?_
  refine @ok_setIdx _ _ _ hF _ _ _ _ _ _ _ _ _ _ at0 (by kernel_rfl) ?_ ?_ (by intro L a cd; kernel_rfl)
  refine @ok_bin _ _ _ _ _ _ _ _ _ _ ?_ ?_ (@op_add _ _ _)
  exact (@ok_var _ _ _ hF _ _ _ _ at3 (by kernel_rfl))
  refine @ok_len _ _ _ hF hG _ _ _ _ ?_ (by kernel_rfl) (fun _ => rfl)
  exact (@ok_var _ _ _ hF _ _ _ _ at1 (by kernel_rfl))
  refine @ok_if _ _ _ _ _ _ _ _ _ _ ?_ ?_ ?_
  refine @ok_cmp _ _ _ _ _ _ _ _ _ _ ?_ ?_ (@c_lt _ _ _) (by rfl)
  exact (@ok_var _ _ _ hF _ _ _ _ at9 (by kernel_rfl))
  exact @ok_int _ _ _ _ _ _ _ (by rfl)
  refine @ok_bin _ _ _ _ _ _ _ _ _ _ ?_ ?_ (@op_add _ _ _)
  exact (@ok_var _ _ _ hF _ _ _ _ at9 (by kernel_rfl))
  exact (@ok_var _ _ _ hF _ _ _ _ at6 (by kernel_rfl))
  exact (@ok_var _ _ _ hF _ _ _ _ at9 (by kernel_rfl))
  refine @okB_cons _ _ _ _ _ _ _ ?_ ?_
  refine @ok_ret _ _ _ _ _ _ ?_
  refine @ok_if _ _ _ _ _ _ _ _ _ _ ?_ ?_ ?_
  refine @ok_cmp _ _ _ _ _ _ _ _ _ _ ?_ ?_ (@c_lt _ _ _) (by rfl)
  exact (@ok_var _ _ _ hF _ _ _ _ at9 (by kernel_rfl))
  exact @ok_int _ _ _ _ _ _ _ (by rfl)
  exact @ok_int _ _ _ _ _ _ _ (by rfl)
  exact @ok_int _ _ _ _ _ _ _ (by rfl)
  exact @okB_nil _ _ _
theorem C_take_away {G : GE} (hA : GAll G) : RefOk G 2 (G.fa 32) c_take_away :=
  refOk_of (n := 1) (F := F_take_away) (k := 4) hA.ok hF_take_away (hA.at 30) (s_take_away hA) (by decide) (fun pm cd doc vs e => by
    match vs, e with
    | [v0, v1, v2, v3, v4], _ => rfl) (by decide +kernel) (by kernel_rfl) (by kernel_rfl)
def F_put_back : FC := { name := "put_back", scope := scopeOf (fdOf 31), names := ["rest", "b", "at", "w", "carry", "mask", "spot", "other"] }
theorem hF_put_back : F_put_back.Ok := ⟨by kernel_rfl, by decide +kernel, by decide +kernel⟩
theorem s_put_back {G : GE} (hA : GAll G) : OkB G F_put_back 1 (bodyOf (fdOf 31)) m_put_back := by
  have hF := hF_put_back
  have hG := hA.ok
  unfold m_put_back
  refine @okB_cons _ _ _ _ _ _ _ ?_ ?_
  refine @ok_setTupR _ _ _ hF _ _ _ ["carry", "mask"] _ _ _ _ _ _ (@TgN.cons _ _ _ _ _ _ at5 (by kernel_rfl) (@TgN.cons _ _ _ _ _ _ at4 (by kernel_rfl) (@TgN.nil _))) ?_ (Nat.le_of_ble_eq_true rfl) (by rfl) (by intro L a cd; kernel_rfl) (by intro L a cd; kernel_rfl)
  refine @okV_cons _ _ _ _ _ _ _ ?_ ?_ (fun _ => rfl)
  exact @ok_int _ _ _ _ _ _ _ (by rfl)
  refine @okV_cons _ _ _ _ _ _ _ ?_ ?_ (fun _ => rfl)
  refine @ok_bin _ _ _ _ _ _ _ _ _ _ ?_ ?_ (@op_sub _ _ _)
  refine @ok_bin _ _ _ _ _ _ _ _ _ _ ?_ ?_ (@op_shl _ _ _)
  exact @ok_int _ _ _ _ _ _ _ (by rfl)
  exact (@ok_var _ _ _ hF _ _ _ _ at3 (by kernel_rfl))
  exact @ok_int _ _ _ _ _ _ _ (by rfl)
  exact @okV_nil _ _ _
  refine @okB_cons _ _ _ _ _ _ _ ?_ ?_
  refine @ok_for _ _ _ _ _ _ _ _ _ _ ?_ (step2_nx _ _) ?_ (fun _ _ _ _ => rfl)
  refine @okI_enum _ _ _ hF hG _ _ _ _ _ _ _ _ _ _ _ _ _ _ at6 (by kernel_rfl) at7 (by kernel_rfl) ?_ (by kernel_rfl) (fun _ => rfl)
  exact (@ok_var _ _ _ hF _ _ _ _ at1 (by kernel_rfl))
  refine @okB_cons _ _ _ _ _ _ _ ?_ ?_
  refine @ok_aug _ _ _ hF _ _ _ _ _ _ _ _ _ at4 (by kernel_rfl) ?_ (@op_iadd _ _ _)
  refine @ok_bin _ _ _ _ _ _ _ _ _ _ ?_ ?_ (@op_add _ _ _)
  refine @ok_idx _ _ _ _ _ _ _ _ ?_ ?_ (fun _ _ => rfl)
  exact (@ok_var _ _ _ hF _ _ _ _ at0 (by kernel_rfl))
  refine @ok_bin _ _ _ _ _ _ _ _ _ _ ?_ ?_ (@op_add _ _ _)
  exact (@ok_var _ _ _ hF _ _ _ _ at2 (by kernel_rfl))
  exact (@ok_var _ _ _ hF _ _ _ _ at6 (by kernel_rfl))
  exact (@ok_var _ _ _ hF _ _ _ _ at7 (by kernel_rfl))
  refine @okB_cons _ _ _ _ _ _ _ ?_ ?_
  refine @ok_setIdx _ _ _ hF _ _ _ _ _ _ _ _ _ _ at0 (by kernel_rfl) ?_ ?_ (by intro L a cd; kernel_rfl)
  refine @ok_bin _ _ _ _ _ _ _ _ _ _ ?_ ?_ (@op_add _ _ _)
  exact (@ok_var _ _ _ hF _ _ _ _ at2 (by kernel_rfl))
  exact (@ok_var _ _ _ hF _ _ _ _ at6 (by kernel_rfl))
  refine @ok_bin _ _ _ _ _ _ _ _ _ _ ?_ ?_ (@op_and _ _ _)
  exact (@ok_var _ _ _ hF _ _ _ _ at4 (by kernel_rfl))
  exact (@ok_var _ _ _ hF _ _ _ _ at5 (by kernel_rfl))
  refine @okB_cons _ _ _ _ _ _ _ ?_ ?_
  refine @ok_aug _ _ _ hF _ _ _ _ _ _ _ _ _ at4 (by kernel_rfl) ?_ (@op_ishr _ _ _)
  exact (@ok_var _ _ _ hF _ _ _ _ at3 (by kernel_rfl))
  exact @okB_nil _ _ _
  refine @okB_cons _ _ _ _ _ _ _ ?_ ?_
  refine @ok_setIdx _ _ _ hF _ _ _ _ _ _ _ _ _ _ at0 (by kernel_rfl) ?_ ?_ (by intro L a cd; kernel_rfl)
  refine @ok_bin _ _ _ _ _ _ _ _ _ _ ?_ ?_ (@op_add _ _ _)
  exact (@ok_var _ _ _ hF _ _ _ _ at2 (by kernel_rfl))
  refine @ok_len _ _ _ hF hG _ _ _ _ ?_ (by kernel_rfl) (fun _ => rfl)
  exact (@ok_var _ _ _ hF _ _ _ _ at1 (by kernel_rfl))
  refine @ok_bin _ _ _ _ _ _ _ _ _ _ ?_ ?_ (@op_and _ _ _)
  refine @ok_bin _ _ _ _ _ _ _ _ _ _ ?_ ?_ (@op_add _ _ _)
  refine @ok_idx _ _ _ _ _ _ _ _ ?_ ?_ (fun _ _ => rfl)
  exact (@ok_var _ _ _ hF _ _ _ _ at0 (by kernel_rfl))
  refine @ok_bin _ _ _ _ _ _ _ _ _ _ ?_ ?_ (@op_add _ _ _)
  exact (@ok_var _ _ _ hF _ _ _ _ at2 (by kernel_rfl))
  refine @ok_len _ _ _ hF hG _ _ _ _ ?_ (by kernel_rfl) (fun _ => rfl)
  exact (@ok_var _ _ _ hF _ _ _ _ at1 (by kernel_rfl))
  exact (@ok_var _ _ _ hF _ _ _ _ at4 (by kernel_rfl))
  exact (@ok_var _ _ _ hF _ _ _ _ at5 (by kernel_rfl))
  exact @okB_nil _ _ _
theorem C_put_back {G : GE} (hA : GAll G) : RefOk G 2 (G.fa 33) c_put_back :=
  refOk_of (n := 1) (F := F_put_back) (k := 3) hA.ok hF_put_back (hA.at 31) (s_put_back hA) (by decide) (fun pm cd doc vs e => by
    match vs, e with
    | [v0, v1, v2, v3], _ => rfl) (by decide +kernel) (by kernel_rfl) (by kernel_rfl)
def F_guessed_limb : FC := { name := "guessed_limb", scope := scopeOf (fdOf 29), names := ["top", "first", "second", "w", "high", "base", "limb", "rest"] }
theorem hF_guessed_limb : F_guessed_limb.Ok := ⟨by kernel_rfl, by decide +kernel, by decide +kernel⟩
theorem s_guessed_limb {G : GE} (hA : GAll G) : OkB G F_guessed_limb 1 (bodyOf (fdOf 29)) m_guessed_limb := by
  have hF := hF_guessed_limb
  have hG := hA.ok
  unfold m_guessed_limb
  refine @okB_cons _ _ _ _ _ _ _ ?_ ?_
  refine @ok_setTupR _ _ _ hF _ _ _ ["high", "base"] _ _ _ _ _ _ (@TgN.cons _ _ _ _ _ _ at5 (by kernel_rfl) (@TgN.cons _ _ _ _ _ _ at4 (by kernel_rfl) (@TgN.nil _))) ?_ (Nat.le_of_ble_eq_true rfl) (by rfl) (by intro L a cd; kernel_rfl) (by intro L a cd; kernel_rfl)
  refine @okV_cons _ _ _ _ _ _ _ ?_ ?_ (fun _ => rfl)
  refine @ok_bin _ _ _ _ _ _ _ _ _ _ ?_ ?_ (@op_or _ _ _)
  refine @ok_bin _ _ _ _ _ _ _ _ _ _ ?_ ?_ (@op_shl _ _ _)
  refine @ok_idx _ _ _ _ _ _ _ _ ?_ ?_ (fun _ _ => rfl)
  exact (@ok_var _ _ _ hF _ _ _ _ at0 (by kernel_rfl))
  exact @ok_int _ _ _ _ _ _ _ (by rfl)
  exact (@ok_var _ _ _ hF _ _ _ _ at3 (by kernel_rfl))
  refine @ok_idx _ _ _ _ _ _ _ _ ?_ ?_ (fun _ _ => rfl)
  exact (@ok_var _ _ _ hF _ _ _ _ at0 (by kernel_rfl))
  exact @ok_int _ _ _ _ _ _ _ (by rfl)
  refine @okV_cons _ _ _ _ _ _ _ ?_ ?_ (fun _ => rfl)
  refine @ok_bin _ _ _ _ _ _ _ _ _ _ ?_ ?_ (@op_shl _ _ _)
  exact @ok_int _ _ _ _ _ _ _ (by rfl)
  exact (@ok_var _ _ _ hF _ _ _ _ at3 (by kernel_rfl))
  exact @okV_nil _ _ _
  refine @okB_cons _ _ _ _ _ _ _ ?_ ?_
  refine @ok_set _ _ _ hF _ _ _ _ _ _ _ at6 (by kernel_rfl) ?_ (by intro L a cd; kernel_rfl)
  refine @ok_min _ _ _ hF hG _ _ _ _ _ _ ?_ ?_ (by kernel_rfl) (fun _ => rfl) (fun _ => rfl)
  refine @ok_bin _ _ _ _ _ _ _ _ _ _ ?_ ?_ (@op_div _ _ _)
  exact (@ok_var _ _ _ hF _ _ _ _ at4 (by kernel_rfl))
  exact (@ok_var _ _ _ hF _ _ _ _ at1 (by kernel_rfl))
  refine @ok_bin _ _ _ _ _ _ _ _ _ _ ?_ ?_ (@op_sub _ _ _)
  exact (@ok_var _ _ _ hF _ _ _ _ at5 (by kernel_rfl))
  exact @ok_int _ _ _ _ _ _ _ (by rfl)
  refine @okB_cons _ _ _ _ _ _ _ ?_ ?_
  refine @ok_set _ _ _ hF _ _ _ _ _ _ _ at7 (by kernel_rfl) ?_ (by intro L a cd; kernel_rfl)
  refine @ok_bin _ _ _ _ _ _ _ _ _ _ ?_ ?_ (@op_sub _ _ _)
  exact (@ok_var _ _ _ hF _ _ _ _ at4 (by kernel_rfl))
  refine @ok_bin _ _ _ _ _ _ _ _ _ _ ?_ ?_ (@op_mul _ _ _)
  exact (@ok_var _ _ _ hF _ _ _ _ at6 (by kernel_rfl))
  exact (@ok_var _ _ _ hF _ _ _ _ at1 (by kernel_rfl))
  refine @okB_cons _ _ _ _ _ _ _ ?_ ?_
  refine @ok_while _ _ _ _ _ _ _ _ ?_ ?_
  refine @ok_and _ _ _ _ _ _ _ _ ?_ ?_
  refine @ok_cmp _ _ _ _ _ _ _ _ _ _ ?_ ?_ (@c_lt _ _ _) (by rfl)
  exact (@ok_var _ _ _ hF _ _ _ _ at7 (by kernel_rfl))
  exact (@ok_var _ _ _ hF _ _ _ _ at5 (by kernel_rfl))
  refine @ok_cmp _ _ _ _ _ _ _ _ _ _ ?_ ?_ (@c_gt _ _ _) (by rfl)
  refine @ok_bin _ _ _ _ _ _ _ _ _ _ ?_ ?_ (@op_mul _ _ _)
  exact (@ok_var _ _ _ hF _ _ _ _ at6 (by kernel_rfl))
  exact (@ok_var _ _ _ hF _ _ _ _ at2 (by kernel_rfl))
  refine @ok_bin _ _ _ _ _ _ _ _ _ _ ?_ ?_ (@op_or _ _ _)
  refine @ok_bin _ _ _ _ _ _ _ _ _ _ ?_ ?_ (@op_shl _ _ _)
  exact (@ok_var _ _ _ hF _ _ _ _ at7 (by kernel_rfl))
  exact (@ok_var _ _ _ hF _ _ _ _ at3 (by kernel_rfl))
  refine @ok_idx _ _ _ _ _ _ _ _ ?_ ?_ (fun _ _ => rfl)
  exact (@ok_var _ _ _ hF _ _ _ _ at0 (by kernel_rfl))
  exact @ok_int _ _ _ _ _ _ _ (by rfl)
  refine @okB_cons _ _ _ _ _ _ _ ?_ ?_
  refine @ok_aug _ _ _ hF _ _ _ _ _ _ _ _ _ at6 (by kernel_rfl) ?_ (@op_isub _ _ _)
  exact @ok_int _ _ _ _ _ _ _ (by rfl)
  refine @okB_cons _ _ _ _ _ _ _ ?_ ?_
  refine @ok_aug _ _ _ hF _ _ _ _ _ _ _ _ _ at7 (by kernel_rfl) ?_ (@op_iadd _ _ _)
  exact (@ok_var _ _ _ hF _ _ _ _ at1 (by kernel_rfl))
  exact @okB_nil _ _ _
  refine @okB_cons _ _ _ _ _ _ _ ?_ ?_
  refine @ok_ret _ _ _ _ _ _ ?_
  exact (@ok_var _ _ _ hF _ _ _ _ at6 (by kernel_rfl))
  exact @okB_nil _ _ _
theorem C_guessed_limb {G : GE} (hA : GAll G) : CallOk G 2 (G.fa 31) c_guessed_limb :=
  callOk_of (n := 1) (F := F_guessed_limb) (k := 4) hA.ok hF_guessed_limb (hA.at 29) (s_guessed_limb hA) (by decide) (fun pm cd doc vs e => by
    match vs, e with
    | [v0, v1, v2, v3], _ => rfl) (by decide +kernel) (by kernel_rfl) (by kernel_rfl)
def F_divide_rows : FC := { name := "divide_rows", scope := scopeOf (fdOf 32), names := ["rest", "b", "w", "size", "quotient", "at", "limb"] }
theorem hF_divide_rows : F_divide_rows.Ok := ⟨by kernel_rfl, by decide +kernel, by decide +kernel⟩
theorem s_divide_rows {G : GE} (hA : GAll G) : OkB G F_divide_rows 2 (bodyOf (fdOf 32)) m_divide_rows := by
  have hF := hF_divide_rows
  have hG := hA.ok
  unfold m_divide_rows
  refine @okB_cons _ _ _ _ _ _ _ ?_ ?_
  refine @ok_set _ _ _ hF _ _ _ _ _ _ _ at3 (by kernel_rfl) ?_ (by intro L a cd; kernel_rfl)
  refine @ok_len _ _ _ hF hG _ _ _ _ ?_ (by kernel_rfl) (fun _ => rfl)
  exact (@ok_var _ _ _ hF _ _ _ _ at1 (by kernel_rfl))
  refine @okB_cons _ _ _ _ _ _ _ ?_ ?_
  refine @ok_set _ _ _ hF _ _ _ _ _ _ _ at4 (by kernel_rfl) ?_ (by intro L a cd; kernel_rfl)
  refine @ok_bin _ _ _ _ _ _ _ _ _ _ ?_ ?_ (@op_mul _ _ _)
  refine @ok_list _ _ _ _ _ _ ?_
  refine @okL_cons _ _ _ _ _ _ _ ?_ ?_ (fun _ => rfl)
  exact @ok_int _ _ _ _ _ _ _ (by rfl)
  exact @okL_nil _ _ _
  refine @ok_bin _ _ _ _ _ _ _ _ _ _ ?_ ?_ (@op_sub _ _ _)
  refine @ok_len _ _ _ hF hG _ _ _ _ ?_ (by kernel_rfl) (fun _ => rfl)
  exact (@ok_var _ _ _ hF _ _ _ _ at0 (by kernel_rfl))
  exact (@ok_var _ _ _ hF _ _ _ _ at3 (by kernel_rfl))
  refine @okB_cons _ _ _ _ _ _ _ ?_ ?_
  refine @ok_for _ _ _ _ _ _ _ _ _ _ ?_ (step1_nx _) ?_ (fun _ _ _ _ => rfl)
  refine @okI_rangeD _ _ _ hF hG _ _ _ _ _ _ _ _ _ _ _ at5 (by kernel_rfl) ?_ ?_ (@ok_neg _ _ _ _ _ _ (@ok_int _ _ _ _ _ _ _ (by rfl))) (by kernel_rfl) (fun _ => rfl) (fun _ => rfl) (fun _ => rfl)
  refine @ok_bin _ _ _ _ _ _ _ _ _ _ ?_ ?_ (@op_sub _ _ _)
  refine @ok_bin _ _ _ _ _ _ _ _ _ _ ?_ ?_ (@op_sub _ _ _)
  refine @ok_len _ _ _ hF hG _ _ _ _ ?_ (by kernel_rfl) (fun _ => rfl)
  exact (@ok_var _ _ _ hF _ _ _ _ at0 (by kernel_rfl))
  exact (@ok_var _ _ _ hF _ _ _ _ at3 (by kernel_rfl))
  exact @ok_int _ _ _ _ _ _ _ (by rfl)
  refine @ok_neg _ _ _ _ _ _ ?_
  exact @ok_int _ _ _ _ _ _ _ (by rfl)
  refine @okB_cons _ _ _ _ _ _ _ ?_ ?_
  refine @ok_set _ _ _ hF _ _ _ _ _ _ _ at6 (by kernel_rfl) ?_ (by intro L a cd; kernel_rfl)
  refine @ok_call _ _ _ hF hG _ _ _ _ _ _ _ _ ?_ ((C_guessed_limb hA).mono (by omega)) (by kernel_rfl) (by kernel_rfl) (hA.mg29) (fun _ => rfl)
  refine @okL_cons _ _ _ _ _ _ _ ?_ ?_ (fun _ => rfl)
  refine @ok_slice _ _ _ _ _ _ _ _ _ _ _ ?_ ?_ ?_ (fun _ _ => rfl)
  exact (@ok_var _ _ _ hF _ _ _ _ at0 (by kernel_rfl))
  refine @ok_bin _ _ _ _ _ _ _ _ _ _ ?_ ?_ (@op_sub _ _ _)
  refine @ok_bin _ _ _ _ _ _ _ _ _ _ ?_ ?_ (@op_add _ _ _)
  exact (@ok_var _ _ _ hF _ _ _ _ at5 (by kernel_rfl))
  exact (@ok_var _ _ _ hF _ _ _ _ at3 (by kernel_rfl))
  exact @ok_int _ _ _ _ _ _ _ (by rfl)
  refine @ok_bin _ _ _ _ _ _ _ _ _ _ ?_ ?_ (@op_add _ _ _)
  refine @ok_bin _ _ _ _ _ _ _ _ _ _ ?_ ?_ (@op_add _ _ _)
  exact (@ok_var _ _ _ hF _ _ _ _ at5 (by kernel_rfl))
  exact (@ok_var _ _ _ hF _ _ _ _ at3 (by kernel_rfl))
  exact @ok_int _ _ _ _ _ _ _ (by rfl)
  refine @okL_cons _ _ _ _ _ _ _ ?_ ?_ (fun _ => rfl)
  refine @ok_idx _ _ _ _ _ _ _ _ ?_ ?_ (fun _ _ => rfl)
  exact (@ok_var _ _ _ hF _ _ _ _ at1 (by kernel_rfl))
  refine @ok_bin _ _ _ _ _ _ _ _ _ _ ?_ ?_ (@op_sub _ _ _)
  exact (@ok_var _ _ _ hF _ _ _ _ at3 (by kernel_rfl))
  exact @ok_int _ _ _ _ _ _ _ (by rfl)
  refine @okL_cons _ _ _ _ _ _ _ ?_ ?_ (fun _ => rfl)
  refine @ok_idx _ _ _ _ _ _ _ _ ?_ ?_ (fun _ _ => rfl)
  exact (@ok_var _ _ _ hF _ _ _ _ at1 (by kernel_rfl))
  refine @ok_bin _ _ _ _ _ _ _ _ _ _ ?_ ?_ (@op_sub _ _ _)
  exact (@ok_var _ _ _ hF _ _ _ _ at3 (by kernel_rfl))
  exact @ok_int _ _ _ _ _ _ _ (by rfl)
  refine @okL_cons _ _ _ _ _ _ _ ?_ ?_ (fun _ => rfl)
  exact (@ok_var _ _ _ hF _ _ _ _ at2 (by kernel_rfl))
  exact @okL_nil _ _ _
  refine @okB_cons _ _ _ _ _ _ _ ?_ ?_
  refine @ok_ifs _ _ _ _ _ _ _ _ _ _ ?_ ?_ ?_
  refine @ok_cmp _ _ _ _ _ _ _ _ _ _ ?_ ?_ (@c_eq _ _ _) (by rfl)
  refine @ok_callR _ _ _ hF hG _ _ _ _ _ _ _ _ _ _ _ at0 (by kernel_rfl) ?_ ((C_take_away hA).mono (by omega)) (by kernel_rfl) (by kernel_rfl) (hA.mg30) (fun _ => rfl)
  refine @okL_cons _ _ _ _ _ _ _ ?_ ?_ (fun _ => rfl)
  exact (@ok_var _ _ _ hF _ _ _ _ at1 (by kernel_rfl))
  refine @okL_cons _ _ _ _ _ _ _ ?_ ?_ (fun _ => rfl)
  exact (@ok_var _ _ _ hF _ _ _ _ at6 (by kernel_rfl))
  refine @okL_cons _ _ _ _ _ _ _ ?_ ?_ (fun _ => rfl)
  exact (@ok_var _ _ _ hF _ _ _ _ at5 (by kernel_rfl))
  refine @okL_cons _ _ _ _ _ _ _ ?_ ?_ (fun _ => rfl)
  exact (@ok_var _ _ _ hF _ _ _ _ at2 (by kernel_rfl))
  exact @okL_nil _ _ _
  exact @ok_int _ _ _ _ _ _ _ (by rfl)
  refine @okB_cons _ _ _ _ _ _ _ ?_ ?_
  refine @ok_aug _ _ _ hF _ _ _ _ _ _ _ _ _ at6 (by kernel_rfl) ?_ (@op_isub _ _ _)
  exact @ok_int _ _ _ _ _ _ _ (by rfl)
  refine @okB_cons _ _ _ _ _ _ _ ?_ ?_
  refine @ok_exp _ _ _ _ _ _ ?_ (by intro L a cd; kernel_rfl) (by intro L a cd; kernel_rfl)
  refine @ok_callR _ _ _ hF hG _ _ _ _ _ _ _ _ _ _ _ at0 (by kernel_rfl) ?_ ((C_put_back hA).mono (by omega)) (by kernel_rfl) (by kernel_rfl) (hA.mg31) (fun _ => rfl)
  refine @okL_cons _ _ _ _ _ _ _ ?_ ?_ (fun _ => rfl)
  exact (@ok_var _ _ _ hF _ _ _ _ at1 (by kernel_rfl))
  refine @okL_cons _ _ _ _ _ _ _ ?_ ?_ (fun _ => rfl)
  exact (@ok_var _ _ _ hF _ _ _ _ at5 (by kernel_rfl))
  refine @okL_cons _ _ _ _ _ _ _ ?_ ?_ (fun _ => rfl)
  exact (@ok_var _ _ _ hF _ _ _ _ at2 (by kernel_rfl))
  exact @okL_nil _ _ _
  exact @okB_nil _ _ _
  exact @okB_nil _ _ _
  refine @okB_cons _ _ _ _ _ _ _ ?_ ?_
  refine @ok_setIdx _ _ _ hF _ _ _ _ _ _ _ _ _ _ at4 (by kernel_rfl) ?_ ?_ (by intro L a cd; kernel_rfl)
  exact (@ok_var _ _ _ hF _ _ _ _ at5 (by kernel_rfl))
  exact (@ok_var _ _ _ hF _ _ _ _ at6 (by kernel_rfl))
  exact @okB_nil _ _ _
  refine @okB_cons _ _ _ _ _ _ _ ?_ ?_
  refine @ok_ret _ _ _ _ _ _ ?_
  exact (@ok_var _ _ _ hF _ _ _ _ at4 (by kernel_rfl))
  exact @okB_nil _ _ _
theorem C_divide_rows {G : GE} (hA : GAll G) : RefOk G 3 (G.fa 34) c_divide_rows :=
  refOk_of (n := 2) (F := F_divide_rows) (k := 2) hA.ok hF_divide_rows (hA.at 32) (s_divide_rows hA) (by decide) (fun pm cd doc vs e => by
    match vs, e with
    | [v0, v1, v2], _ => rfl) (by decide +kernel) (by kernel_rfl) (by kernel_rfl)
def F_divrem_small : FC := { name := "divrem_small", scope := scopeOf (fdOf 28), names := ["a", "b", "w", "quotient", "rest"] }
theorem hF_divrem_small : F_divrem_small.Ok := ⟨by kernel_rfl, by decide +kernel, by decide +kernel⟩
theorem s_divrem_small {G : GE} (hA : GAll G) : OkB G F_divrem_small 3 (bodyOf (fdOf 28)) m_divrem_small := by
  have hF := hF_divrem_small
  have hG := hA.ok
  unfold m_divrem_small
  refine @okB_cons _ _ _ _ _ _ _ ?_ ?_
  refine @ok_unp _ _ _ hF _ _ _ _ _ _ _ (@Tg.cons _ _ _ _ _ _ _ at3 (by kernel_rfl) (@Tg.cons _ _ _ _ _ _ _ at4 (by kernel_rfl) (@Tg.nil _))) ?_ (by intro L a cd; kernel_rfl) (by intro L a cd; kernel_rfl)
  refine @ok_call _ _ _ hF hG _ _ _ _ _ _ _ _ ?_ ((C_divrem_limb hA).mono (by omega)) (by kernel_rfl) (by kernel_rfl) (hA.mg11) (fun _ => rfl)
  refine @okL_cons _ _ _ _ _ _ _ ?_ ?_ (fun _ => rfl)
  exact (@ok_var _ _ _ hF _ _ _ _ at0 (by kernel_rfl))
  refine @okL_cons _ _ _ _ _ _ _ ?_ ?_ (fun _ => rfl)
  refine @ok_idx _ _ _ _ _ _ _ _ ?_ ?_ (fun _ _ => rfl)
  exact (@ok_var _ _ _ hF _ _ _ _ at1 (by kernel_rfl))
  exact @ok_int _ _ _ _ _ _ _ (by rfl)
  refine @okL_cons _ _ _ _ _ _ _ ?_ ?_ (fun _ => rfl)
  exact (@ok_var _ _ _ hF _ _ _ _ at2 (by kernel_rfl))
  exact @okL_nil _ _ _
  refine @okB_cons _ _ _ _ _ _ _ ?_ ?_
  refine @ok_ret _ _ _ _ _ _ ?_
  refine @ok_tup _ _ _ _ _ _ _ ?_ (Nat.le_of_ble_eq_true rfl)
  refine @okL_cons _ _ _ _ _ _ _ ?_ ?_ (fun _ => rfl)
  exact (@ok_var _ _ _ hF _ _ _ _ at3 (by kernel_rfl))
  refine @okL_cons _ _ _ _ _ _ _ ?_ ?_ (fun _ => rfl)
  refine @ok_if _ _ _ _ _ _ _ _ _ _ ?_ ?_ ?_
  refine @ok_cmp _ _ _ _ _ _ _ _ _ _ ?_ ?_ (@c_gt _ _ _) (by rfl)
  exact (@ok_var _ _ _ hF _ _ _ _ at4 (by kernel_rfl))
  exact @ok_int _ _ _ _ _ _ _ (by rfl)
  refine @ok_list _ _ _ _ _ _ ?_
  refine @okL_cons _ _ _ _ _ _ _ ?_ ?_ (fun _ => rfl)
  exact (@ok_var _ _ _ hF _ _ _ _ at4 (by kernel_rfl))
  exact @okL_nil _ _ _
  refine @ok_list _ _ _ _ _ _ ?_
  exact @okL_nil _ _ _
  exact @okL_nil _ _ _
  exact @okB_nil _ _ _
theorem C_divrem_small {G : GE} (hA : GAll G) : CallOk G 4 (G.fa 30) c_divrem_small :=
  callOk_of (n := 3) (F := F_divrem_small) (k := 3) hA.ok hF_divrem_small (hA.at 28) (s_divrem_small hA) (by decide) (fun pm cd doc vs e => by
    match vs, e with
    | [v0, v1, v2], _ => rfl) (by decide +kernel) (by kernel_rfl) (by kernel_rfl)
def F_divrem_school : FC := { name := "divrem_school", scope := scopeOf (fdOf 33), names := ["a", "b", "w", "shift", "divisor", "rest", "quotient"] }
theorem hF_divrem_school : F_divrem_school.Ok := ⟨by kernel_rfl, by decide +kernel, by decide +kernel⟩
theorem s_divrem_school {G : GE} (hA : GAll G) : OkB G F_divrem_school 4 (bodyOf (fdOf 33)) m_divrem_school := by
  have hF := hF_divrem_school
  have hG := hA.ok
  unfold m_divrem_school
  refine @okB_cons _ _ _ _ _ _ _ ?_ ?_
  refine @ok_ifs _ _ _ _ _ _ _ _ _ _ ?_ ?_ ?_
  refine @ok_cmp _ _ _ _ _ _ _ _ _ _ ?_ ?_ (@c_eq _ _ _) (by rfl)
  refine @ok_len _ _ _ hF hG _ _ _ _ ?_ (by kernel_rfl) (fun _ => rfl)
  exact (@ok_var _ _ _ hF _ _ _ _ at1 (by kernel_rfl))
  exact @ok_int _ _ _ _ _ _ _ (by rfl)
  refine @okB_cons _ _ _ _ _ _ _ ?_ ?_
  exact @ok_fail _ _ _ _
  exact @okB_nil _ _ _
  exact @okB_nil _ _ _
  refine @okB_cons _ _ _ _ _ _ _ ?_ ?_
  refine @ok_ifs _ _ _ _ _ _ _ _ _ _ ?_ ?_ ?_
  refine @ok_cmp _ _ _ _ _ _ _ _ _ _ ?_ ?_ (@c_lt _ _ _) (by rfl)
  refine @ok_call _ _ _ hF hG _ _ _ _ _ _ _ _ ?_ ((C_compare hA).mono (by omega)) (by kernel_rfl) (by kernel_rfl) (hA.mg6) (fun _ => rfl)
  refine @okL_cons _ _ _ _ _ _ _ ?_ ?_ (fun _ => rfl)
  exact (@ok_var _ _ _ hF _ _ _ _ at0 (by kernel_rfl))
  refine @okL_cons _ _ _ _ _ _ _ ?_ ?_ (fun _ => rfl)
  exact (@ok_var _ _ _ hF _ _ _ _ at1 (by kernel_rfl))
  exact @okL_nil _ _ _
  exact @ok_int _ _ _ _ _ _ _ (by rfl)
  refine @okB_cons _ _ _ _ _ _ _ ?_ ?_
  refine @ok_ret _ _ _ _ _ _ ?_
  refine @ok_tup _ _ _ _ _ _ _ ?_ (Nat.le_of_ble_eq_true rfl)
  refine @okL_cons _ _ _ _ _ _ _ ?_ ?_ (fun _ => rfl)
  refine @ok_list _ _ _ _ _ _ ?_
  exact @okL_nil _ _ _
  refine @okL_cons _ _ _ _ _ _ _ ?_ ?_ (fun _ => rfl)
  refine @ok_slice _ _ _ _ _ _ _ _ _ _ _ ?_ ?_ ?_ (fun _ _ => rfl)
  exact (@ok_var _ _ _ hF _ _ _ _ at0 (by kernel_rfl))
  exact rfl
  exact rfl
  exact @okL_nil _ _ _
  exact @okB_nil _ _ _
  exact @okB_nil _ _ _
  refine @okB_cons _ _ _ _ _ _ _ ?_ ?_
  refine @ok_ifs _ _ _ _ _ _ _ _ _ _ ?_ ?_ ?_
  refine @ok_cmp _ _ _ _ _ _ _ _ _ _ ?_ ?_ (@c_eq _ _ _) (by rfl)
  refine @ok_len _ _ _ hF hG _ _ _ _ ?_ (by kernel_rfl) (fun _ => rfl)
  exact (@ok_var _ _ _ hF _ _ _ _ at1 (by kernel_rfl))
  exact @ok_int _ _ _ _ _ _ _ (by rfl)
  refine @okB_cons _ _ _ _ _ _ _ ?_ ?_
  refine @ok_ret _ _ _ _ _ _ ?_
  refine @ok_call _ _ _ hF hG _ _ _ _ _ _ _ _ ?_ ((C_divrem_small hA).mono (by omega)) (by kernel_rfl) (by kernel_rfl) (hA.mg28) (fun _ => rfl)
  refine @okL_cons _ _ _ _ _ _ _ ?_ ?_ (fun _ => rfl)
  exact (@ok_var _ _ _ hF _ _ _ _ at0 (by kernel_rfl))
  refine @okL_cons _ _ _ _ _ _ _ ?_ ?_ (fun _ => rfl)
  exact (@ok_var _ _ _ hF _ _ _ _ at1 (by kernel_rfl))
  refine @okL_cons _ _ _ _ _ _ _ ?_ ?_ (fun _ => rfl)
  exact (@ok_var _ _ _ hF _ _ _ _ at2 (by kernel_rfl))
  exact @okL_nil _ _ _
  exact @okB_nil _ _ _
  exact @okB_nil _ _ _
  refine @okB_cons _ _ _ _ _ _ _ ?_ ?_
  refine @ok_set _ _ _ hF _ _ _ _ _ _ _ at3 (by kernel_rfl) ?_ (by intro L a cd; kernel_rfl)
  refine @ok_bin _ _ _ _ _ _ _ _ _ _ ?_ ?_ (@op_sub _ _ _)
  exact (@ok_var _ _ _ hF _ _ _ _ at2 (by kernel_rfl))
  refine @ok_call _ _ _ hF hG _ _ _ _ _ _ _ _ ?_ ((C_bits hA).mono (by omega)) (by kernel_rfl) (by kernel_rfl) (hA.mg14) (fun _ => rfl)
  refine @okL_cons _ _ _ _ _ _ _ ?_ ?_ (fun _ => rfl)
  refine @ok_list _ _ _ _ _ _ ?_
  refine @okL_cons _ _ _ _ _ _ _ ?_ ?_ (fun _ => rfl)
  refine @ok_idx _ _ _ _ _ _ _ _ ?_ ?_ (fun _ _ => rfl)
  exact (@ok_var _ _ _ hF _ _ _ _ at1 (by kernel_rfl))
  refine @ok_neg _ _ _ _ _ _ ?_
  exact @ok_int _ _ _ _ _ _ _ (by rfl)
  exact @okL_nil _ _ _
  refine @okL_cons _ _ _ _ _ _ _ ?_ ?_ (fun _ => rfl)
  exact (@ok_var _ _ _ hF _ _ _ _ at2 (by kernel_rfl))
  exact @okL_nil _ _ _
  refine @okB_cons _ _ _ _ _ _ _ ?_ ?_
  refine @ok_set _ _ _ hF _ _ _ _ _ _ _ at4 (by kernel_rfl) ?_ (by intro L a cd; kernel_rfl)
  refine @ok_call _ _ _ hF hG _ _ _ _ _ _ _ _ ?_ ((C_shift_left hA).mono (by omega)) (by kernel_rfl) (by kernel_rfl) (hA.mg12) (fun _ => rfl)
  refine @okL_cons _ _ _ _ _ _ _ ?_ ?_ (fun _ => rfl)
  exact (@ok_var _ _ _ hF _ _ _ _ at1 (by kernel_rfl))
  refine @okL_cons _ _ _ _ _ _ _ ?_ ?_ (fun _ => rfl)
  exact (@ok_var _ _ _ hF _ _ _ _ at3 (by kernel_rfl))
  refine @okL_cons _ _ _ _ _ _ _ ?_ ?_ (fun _ => rfl)
  exact (@ok_var _ _ _ hF _ _ _ _ at2 (by kernel_rfl))
  exact @okL_nil _ _ _
  refine @okB_cons _ _ _ _ _ _ _ ?_ ?_
  refine @ok_set _ _ _ hF _ _ _ _ _ _ _ at5 (by kernel_rfl) ?_ (by intro L a cd; kernel_rfl)
  refine @ok_call _ _ _ hF hG _ _ _ _ _ _ _ _ ?_ ((C_shift_left hA).mono (by omega)) (by kernel_rfl) (by kernel_rfl) (hA.mg12) (fun _ => rfl)
  refine @okL_cons _ _ _ _ _ _ _ ?_ ?_ (fun _ => rfl)
  exact (@ok_var _ _ _ hF _ _ _ _ at0 (by kernel_rfl))
  refine @okL_cons _ _ _ _ _ _ _ ?_ ?_ (fun _ => rfl)
  exact (@ok_var _ _ _ hF _ _ _ _ at3 (by kernel_rfl))
  refine @okL_cons _ _ _ _ _ _ _ ?_ ?_ (fun _ => rfl)
  exact (@ok_var _ _ _ hF _ _ _ _ at2 (by kernel_rfl))
  exact @okL_nil _ _ _
  refine @okB_cons _ _ _ _ _ _ _ ?_ ?_
  refine @ok_set _ _ _ hF _ _ _ _ _ _ _ at5 (by kernel_rfl) ?_ (by intro L a cd; kernel_rfl)
  refine @ok_bin _ _ _ _ _ _ _ _ _ _ ?_ ?_ (@op_add _ _ _)
  exact (@ok_var _ _ _ hF _ _ _ _ at5 (by kernel_rfl))
  refine @ok_bin _ _ _ _ _ _ _ _ _ _ ?_ ?_ (@op_mul _ _ _)
  refine @ok_list _ _ _ _ _ _ ?_
  refine @okL_cons _ _ _ _ _ _ _ ?_ ?_ (fun _ => rfl)
  exact @ok_int _ _ _ _ _ _ _ (by rfl)
  exact @okL_nil _ _ _
  refine @ok_bin _ _ _ _ _ _ _ _ _ _ ?_ ?_ (@op_sub _ _ _)
  refine @ok_bin _ _ _ _ _ _ _ _ _ _ ?_ ?_ (@op_add _ _ _)
  refine @ok_len _ _ _ hF hG _ _ _ _ ?_ (by kernel_rfl) (fun _ => rfl)
  exact (@ok_var _ _ _ hF _ _ _ _ at0 (by kernel_rfl))
  exact @ok_int _ _ _ _ _ _ _ (by rfl)
  refine @ok_len _ _ _ hF hG _ _ _ _ ?_ (by kernel_rfl) (fun _ => rfl)
  exact (@ok_var _ _ _ hF _ _ _ _ at5 (by kernel_rfl))
  refine @okB_cons _ _ _ _ _ _ _ ?_ ?_
  refine @ok_set _ _ _ hF _ _ _ _ _ _ _ at6 (by kernel_rfl) ?_ (by intro L a cd; kernel_rfl)
  refine @ok_callR _ _ _ hF hG _ _ _ _ _ _ _ _ _ _ _ at5 (by kernel_rfl) ?_ ((C_divide_rows hA).mono (by omega)) (by kernel_rfl) (by kernel_rfl) (hA.mg32) (fun _ => rfl)
  refine @okL_cons _ _ _ _ _ _ _ ?_ ?_ (fun _ => rfl)
  exact (@ok_var _ _ _ hF _ _ _ _ at4 (by kernel_rfl))
  refine @okL_cons _ _ _ _ _ _ _ ?_ ?_ (fun _ => rfl)
  exact (@ok_var _ _ _ hF _ _ _ _ at2 (by kernel_rfl))
  exact @okL_nil _ _ _
  refine @okB_cons _ _ _ _ _ _ _ ?_ ?_
  refine @ok_ret _ _ _ _ _ _ ?_
  refine @ok_tup _ _ _ _ _ _ _ ?_ (Nat.le_of_ble_eq_true rfl)
  refine @okL_cons _ _ _ _ _ _ _ ?_ ?_ (fun _ => rfl)
  refine @ok_call _ _ _ hF hG _ _ _ _ _ _ _ _ ?_ ((C_normal hA).mono (by omega)) (by kernel_rfl) (by kernel_rfl) (hA.mg4) (fun _ => rfl)
  refine @okL_cons _ _ _ _ _ _ _ ?_ ?_ (fun _ => rfl)
  exact (@ok_var _ _ _ hF _ _ _ _ at6 (by kernel_rfl))
  exact @okL_nil _ _ _
  refine @okL_cons _ _ _ _ _ _ _ ?_ ?_ (fun _ => rfl)
  refine @ok_call _ _ _ hF hG _ _ _ _ _ _ _ _ ?_ ((C_shift_right hA).mono (by omega)) (by kernel_rfl) (by kernel_rfl) (hA.mg13) (fun _ => rfl)
  refine @okL_cons _ _ _ _ _ _ _ ?_ ?_ (fun _ => rfl)
  refine @ok_call _ _ _ hF hG _ _ _ _ _ _ _ _ ?_ ((C_normal hA).mono (by omega)) (by kernel_rfl) (by kernel_rfl) (hA.mg4) (fun _ => rfl)
  refine @okL_cons _ _ _ _ _ _ _ ?_ ?_ (fun _ => rfl)
  exact (@ok_var _ _ _ hF _ _ _ _ at5 (by kernel_rfl))
  exact @okL_nil _ _ _
  refine @okL_cons _ _ _ _ _ _ _ ?_ ?_ (fun _ => rfl)
  exact (@ok_var _ _ _ hF _ _ _ _ at3 (by kernel_rfl))
  refine @okL_cons _ _ _ _ _ _ _ ?_ ?_ (fun _ => rfl)
  exact (@ok_var _ _ _ hF _ _ _ _ at2 (by kernel_rfl))
  exact @okL_nil _ _ _
  exact @okL_nil _ _ _
  exact @okB_nil _ _ _
theorem C_divrem_school {G : GE} (hA : GAll G) : CallOk G 5 (G.fa 35) c_divrem_school :=
  callOk_of (n := 4) (F := F_divrem_school) (k := 3) hA.ok hF_divrem_school (hA.at 33) (s_divrem_school hA) (by decide) (fun pm cd doc vs e => by
    match vs, e with
    | [v0, v1, v2], _ => rfl) (by decide +kernel) (by kernel_rfl) (by kernel_rfl)
def F_digit_off : FC := { name := "digit_off", scope := scopeOf (fdOf 18), names := ["a", "base", "w", "divrem", "quotient", "rest"] }
theorem hF_digit_off : F_digit_off.Ok := ⟨by kernel_rfl, by decide +kernel, by decide +kernel⟩
theorem s_digit_off {G : GE} (hA : GAll G) : OkB G F_digit_off 5 (bodyOf (fdOf 18)) m_digit_off := by
  have hF := hF_digit_off
  have hG := hA.ok
  unfold m_digit_off
  refine @okB_cons _ _ _ _ _ _ _ ?_ ?_
  refine @ok_ifs _ _ _ _ _ _ _ _ _ _ ?_ ?_ ?_
  refine @ok_cmp _ _ _ _ _ _ _ _ _ _ ?_ ?_ (@c_lt _ _ _) (by rfl)
  exact (@ok_var _ _ _ hF _ _ _ _ at1 (by kernel_rfl))
  refine @ok_bin _ _ _ _ _ _ _ _ _ _ ?_ ?_ (@op_shl _ _ _)
  exact @ok_int _ _ _ _ _ _ _ (by rfl)
  exact (@ok_var _ _ _ hF _ _ _ _ at2 (by kernel_rfl))
  refine @okB_cons _ _ _ _ _ _ _ ?_ ?_
  refine @ok_ret _ _ _ _ _ _ ?_
  refine @ok_call _ _ _ hF hG _ _ _ _ _ _ _ _ ?_ ((C_divrem_limb hA).mono (by omega)) (by kernel_rfl) (by kernel_rfl) (hA.mg11) (fun _ => rfl)
  refine @okL_cons _ _ _ _ _ _ _ ?_ ?_ (fun _ => rfl)
  exact (@ok_var _ _ _ hF _ _ _ _ at0 (by kernel_rfl))
  refine @okL_cons _ _ _ _ _ _ _ ?_ ?_ (fun _ => rfl)
  exact (@ok_var _ _ _ hF _ _ _ _ at1 (by kernel_rfl))
  refine @okL_cons _ _ _ _ _ _ _ ?_ ?_ (fun _ => rfl)
  exact (@ok_var _ _ _ hF _ _ _ _ at2 (by kernel_rfl))
  exact @okL_nil _ _ _
  exact @okB_nil _ _ _
  exact @okB_nil _ _ _
  refine @okB_cons _ _ _ _ _ _ _ ?_ ?_
  refine @ok_unp _ _ _ hF _ _ _ _ _ _ _ (@Tg.cons _ _ _ _ _ _ _ at4 (by kernel_rfl) (@Tg.cons _ _ _ _ _ _ _ at5 (by kernel_rfl) (@Tg.nil _))) ?_ (by intro L a cd; kernel_rfl) (by intro L a cd; kernel_rfl)
  refine @ok_callV _ _ _ hF _ _ _ _ _ _ _ _ _ _ at3 (by kernel_rfl) ?_ (hA.f0 ▸ (C_mul_school hA).mono (by omega)) (hA.f1 ▸ (C_divrem_school hA).mono (by omega)) (fun _ => rfl)
  refine @okL_cons _ _ _ _ _ _ _ ?_ ?_ (fun _ => rfl)
  exact (@ok_var _ _ _ hF _ _ _ _ at0 (by kernel_rfl))
  refine @okL_cons _ _ _ _ _ _ _ ?_ ?_ (fun _ => rfl)
  refine @ok_call _ _ _ hF hG _ _ _ _ _ _ _ _ ?_ ((C_nat_of hA).mono (by omega)) (by kernel_rfl) (by kernel_rfl) (hA.mg5) (fun _ => rfl)
  refine @okL_cons _ _ _ _ _ _ _ ?_ ?_ (fun _ => rfl)
  exact (@ok_var _ _ _ hF _ _ _ _ at1 (by kernel_rfl))
  refine @okL_cons _ _ _ _ _ _ _ ?_ ?_ (fun _ => rfl)
  exact (@ok_var _ _ _ hF _ _ _ _ at2 (by kernel_rfl))
  exact @okL_nil _ _ _
  refine @okL_cons _ _ _ _ _ _ _ ?_ ?_ (fun _ => rfl)
  exact (@ok_var _ _ _ hF _ _ _ _ at2 (by kernel_rfl))
  exact @okL_nil _ _ _
  refine @okB_cons _ _ _ _ _ _ _ ?_ ?_
  refine @ok_ret _ _ _ _ _ _ ?_
  refine @ok_tup _ _ _ _ _ _ _ ?_ (Nat.le_of_ble_eq_true rfl)
  refine @okL_cons _ _ _ _ _ _ _ ?_ ?_ (fun _ => rfl)
  exact (@ok_var _ _ _ hF _ _ _ _ at4 (by kernel_rfl))
  refine @okL_cons _ _ _ _ _ _ _ ?_ ?_ (fun _ => rfl)
  refine @ok_call _ _ _ hF hG _ _ _ _ _ _ _ _ ?_ ((C_plain_of hA).mono (by omega)) (by kernel_rfl) (by kernel_rfl) (hA.mg16) (fun _ => rfl)
  refine @okL_cons _ _ _ _ _ _ _ ?_ ?_ (fun _ => rfl)
  exact (@ok_var _ _ _ hF _ _ _ _ at5 (by kernel_rfl))
  refine @okL_cons _ _ _ _ _ _ _ ?_ ?_ (fun _ => rfl)
  exact (@ok_var _ _ _ hF _ _ _ _ at2 (by kernel_rfl))
  exact @okL_nil _ _ _
  exact @okL_nil _ _ _
  exact @okB_nil _ _ _
theorem C_digit_off {G : GE} (hA : GAll G) : CallOk G 6 (G.fa 20) c_digit_off :=
  callOk_of (n := 5) (F := F_digit_off) (k := 4) hA.ok hF_digit_off (hA.at 18) (s_digit_off hA) (by decide) (fun pm cd doc vs e => by
    match vs, e with
    | [v0, v1, v2, v3], _ => rfl) (by decide +kernel) (by kernel_rfl) (by kernel_rfl)
def F_digits_plain : FC := { name := "digits_plain", scope := scopeOf (fdOf 19), names := ["a", "base", "w", "divrem", "found", "digit"] }
theorem hF_digits_plain : F_digits_plain.Ok := ⟨by kernel_rfl, by decide +kernel, by decide +kernel⟩
theorem s_digits_plain {G : GE} (hA : GAll G) : OkB G F_digits_plain 6 (bodyOf (fdOf 19)) m_digits_plain := by
  have hF := hF_digits_plain
  have hG := hA.ok
  unfold m_digits_plain
  refine @okB_cons _ _ _ _ _ _ _ ?_ ?_
  refine @ok_set _ _ _ hF _ _ _ _ _ _ _ at4 (by kernel_rfl) ?_ (by intro L a cd; kernel_rfl)
  refine @ok_list _ _ _ _ _ _ ?_
  exact @okL_nil _ _ _
  refine @okB_cons _ _ _ _ _ _ _ ?_ ?_
  refine @ok_while _ _ _ _ _ _ _ _ ?_ ?_
  refine @ok_cmp _ _ _ _ _ _ _ _ _ _ ?_ ?_ (@c_gt _ _ _) (by rfl)
  refine @ok_len _ _ _ hF hG _ _ _ _ ?_ (by kernel_rfl) (fun _ => rfl)
  exact (@ok_var _ _ _ hF _ _ _ _ at0 (by kernel_rfl))
  exact @ok_int _ _ _ _ _ _ _ (by rfl)
  refine @okB_cons _ _ _ _ _ _ _ ?_ ?_
  refine @ok_unp _ _ _ hF _ _ _ _ _ _ _ (@Tg.cons _ _ _ _ _ _ _ at0 (by kernel_rfl) (@Tg.cons _ _ _ _ _ _ _ at5 (by kernel_rfl) (@Tg.nil _))) ?_ (by intro L a cd; kernel_rfl) (by intro L a cd; kernel_rfl)
  refine @ok_call _ _ _ hF hG _ _ _ _ _ _ _ _ ?_ ((C_digit_off hA).mono (by omega)) (by kernel_rfl) (by kernel_rfl) (hA.mg18) (fun _ => rfl)
  refine @okL_cons _ _ _ _ _ _ _ ?_ ?_ (fun _ => rfl)
  exact (@ok_var _ _ _ hF _ _ _ _ at0 (by kernel_rfl))
  refine @okL_cons _ _ _ _ _ _ _ ?_ ?_ (fun _ => rfl)
  exact (@ok_var _ _ _ hF _ _ _ _ at1 (by kernel_rfl))
  refine @okL_cons _ _ _ _ _ _ _ ?_ ?_ (fun _ => rfl)
  exact (@ok_var _ _ _ hF _ _ _ _ at2 (by kernel_rfl))
  refine @okL_cons _ _ _ _ _ _ _ ?_ ?_ (fun _ => rfl)
  exact (@ok_var _ _ _ hF _ _ _ _ at3 (by kernel_rfl))
  exact @okL_nil _ _ _
  refine @okB_cons _ _ _ _ _ _ _ ?_ ?_
  refine @ok_app _ _ _ hF _ _ _ _ _ _ _ _ _ at4 (by kernel_rfl) ?_ (fun _ => rfl) (fun _ => rfl) (by intro L a cd; kernel_rfl) (by intro L a cd; kernel_rfl)
  exact (@ok_var _ _ _ hF _ _ _ _ at5 (by kernel_rfl))
  exact @okB_nil _ _ _
  refine @okB_cons _ _ _ _ _ _ _ ?_ ?_
  exact @ok_revs _ _ _ hF _ _ _ _ _ _ _ at4 (by kernel_rfl) (fun _ => rfl) (by intro L a cd; kernel_rfl) (by intro L a cd; kernel_rfl)
  refine @okB_cons _ _ _ _ _ _ _ ?_ ?_
  refine @ok_ret _ _ _ _ _ _ ?_
  exact (@ok_var _ _ _ hF _ _ _ _ at4 (by kernel_rfl))
  exact @okB_nil _ _ _
theorem C_digits_plain {G : GE} (hA : GAll G) : CallOk G 7 (G.fa 21) c_digits_plain :=
  callOk_of (n := 6) (F := F_digits_plain) (k := 4) hA.ok hF_digits_plain (hA.at 19) (s_digits_plain hA) (by decide) (fun pm cd doc vs e => by
    match vs, e with
    | [v0, v1, v2, v3], _ => rfl) (by decide +kernel) (by kernel_rfl) (by kernel_rfl)
def F_power : FC := { name := "power", scope := scopeOf (fdOf 25), names := ["a", "n", "w", "mul", "found", "spot"] }
theorem hF_power : F_power.Ok := ⟨by kernel_rfl, by decide +kernel, by decide +kernel⟩
theorem s_power {G : GE} (hA : GAll G) : OkB G F_power 5 (bodyOf (fdOf 25)) m_power := by
  have hF := hF_power
  have hG := hA.ok
  unfold m_power
  refine @okB_cons _ _ _ _ _ _ _ ?_ ?_
  refine @ok_ifs _ _ _ _ _ _ _ _ _ _ ?_ ?_ ?_
  refine @ok_cmp _ _ _ _ _ _ _ _ _ _ ?_ ?_ (@c_lt _ _ _) (by rfl)
  exact (@ok_var _ _ _ hF _ _ _ _ at1 (by kernel_rfl))
  exact @ok_int _ _ _ _ _ _ _ (by rfl)
  refine @okB_cons _ _ _ _ _ _ _ ?_ ?_
  exact @ok_fail _ _ _ _
  exact @okB_nil _ _ _
  exact @okB_nil _ _ _
  refine @okB_cons _ _ _ _ _ _ _ ?_ ?_
  refine @ok_set _ _ _ hF _ _ _ _ _ _ _ at4 (by kernel_rfl) ?_ (by intro L a cd; kernel_rfl)
  refine @ok_list _ _ _ _ _ _ ?_
  refine @okL_cons _ _ _ _ _ _ _ ?_ ?_ (fun _ => rfl)
  exact @ok_int _ _ _ _ _ _ _ (by rfl)
  exact @okL_nil _ _ _
  refine @okB_cons _ _ _ _ _ _ _ ?_ ?_
  refine @ok_for _ _ _ _ _ _ _ _ _ _ ?_ (step1_nx _) ?_ (fun _ _ _ _ => rfl)
  refine @okI_rangeD _ _ _ hF hG _ _ _ _ _ _ _ _ _ _ _ at5 (by kernel_rfl) ?_ ?_ (@ok_neg _ _ _ _ _ _ (@ok_int _ _ _ _ _ _ _ (by rfl))) (by kernel_rfl) (fun _ => rfl) (fun _ => rfl) (fun _ => rfl)
  refine @ok_bin _ _ _ _ _ _ _ _ _ _ ?_ ?_ (@op_sub _ _ _)
  refine @ok_bl _ _ _ _ _ _ _ ?_ (fun _ => rfl)
  exact (@ok_var _ _ _ hF _ _ _ _ at1 (by kernel_rfl))
  exact @ok_int _ _ _ _ _ _ _ (by rfl)
  refine @ok_neg _ _ _ _ _ _ ?_
  exact @ok_int _ _ _ _ _ _ _ (by rfl)
  refine @okB_cons _ _ _ _ _ _ _ ?_ ?_
  refine @ok_set _ _ _ hF _ _ _ _ _ _ _ at4 (by kernel_rfl) ?_ (by intro L a cd; kernel_rfl)
  refine @ok_callV _ _ _ hF _ _ _ _ _ _ _ _ _ _ at3 (by kernel_rfl) ?_ (hA.f0 ▸ (C_mul_school hA).mono (by omega)) (hA.f1 ▸ (C_divrem_school hA).mono (by omega)) (fun _ => rfl)
  refine @okL_cons _ _ _ _ _ _ _ ?_ ?_ (fun _ => rfl)
  exact (@ok_var _ _ _ hF _ _ _ _ at4 (by kernel_rfl))
  refine @okL_cons _ _ _ _ _ _ _ ?_ ?_ (fun _ => rfl)
  exact (@ok_var _ _ _ hF _ _ _ _ at4 (by kernel_rfl))
  refine @okL_cons _ _ _ _ _ _ _ ?_ ?_ (fun _ => rfl)
  exact (@ok_var _ _ _ hF _ _ _ _ at2 (by kernel_rfl))
  exact @okL_nil _ _ _
  refine @okB_cons _ _ _ _ _ _ _ ?_ ?_
  refine @ok_ifs _ _ _ _ _ _ _ _ _ _ ?_ ?_ ?_
  refine @ok_cmp _ _ _ _ _ _ _ _ _ _ ?_ ?_ (@c_eq _ _ _) (by rfl)
  refine @ok_bin _ _ _ _ _ _ _ _ _ _ ?_ ?_ (@op_and _ _ _)
  refine @ok_bin _ _ _ _ _ _ _ _ _ _ ?_ ?_ (@op_shr _ _ _)
  exact (@ok_var _ _ _ hF _ _ _ _ at1 (by kernel_rfl))
  exact (@ok_var _ _ _ hF _ _ _ _ at5 (by kernel_rfl))
  exact @ok_int _ _ _ _ _ _ _ (by rfl)
  exact @ok_int _ _ _ _ _ _ _ (by rfl)
  refine @okB_cons _ _ _ _ _ _ _ ?_ ?_
  refine @ok_set _ _ _ hF _ _ _ _ _ _ _ at4 (by kernel_rfl) ?_ (by intro L a cd; kernel_rfl)
  refine @ok_callV _ _ _ hF _ _ _ _ _ _ _ _ _ _ at3 (by kernel_rfl) ?_ (hA.f0 ▸ (C_mul_school hA).mono (by omega)) (hA.f1 ▸ (C_divrem_school hA).mono (by omega)) (fun _ => rfl)
  refine @okL_cons _ _ _ _ _ _ _ ?_ ?_ (fun _ => rfl)
  exact (@ok_var _ _ _ hF _ _ _ _ at4 (by kernel_rfl))
  refine @okL_cons _ _ _ _ _ _ _ ?_ ?_ (fun _ => rfl)
  exact (@ok_var _ _ _ hF _ _ _ _ at0 (by kernel_rfl))
  refine @okL_cons _ _ _ _ _ _ _ ?_ ?_ (fun _ => rfl)
  exact (@ok_var _ _ _ hF _ _ _ _ at2 (by kernel_rfl))
  exact @okL_nil _ _ _
  exact @okB_nil _ _ _
  exact @okB_nil _ _ _
  exact @okB_nil _ _ _
  refine @okB_cons _ _ _ _ _ _ _ ?_ ?_
  refine @ok_ret _ _ _ _ _ _ ?_
  exact (@ok_var _ _ _ hF _ _ _ _ at4 (by kernel_rfl))
  exact @okB_nil _ _ _
theorem C_power {G : GE} (hA : GAll G) : CallOk G 6 (G.fa 27) c_power :=
  callOk_of (n := 5) (F := F_power) (k := 4) hA.ok hF_power (hA.at 25) (s_power hA) (by decide) (fun pm cd doc vs e => by
    match vs, e with
    | [v0, v1, v2, v3], _ => rfl) (by decide +kernel) (by kernel_rfl) (by kernel_rfl)
def F_base_powers : FC := { name := "base_powers", scope := scopeOf (fdOf 20), names := ["a", "base", "w", "mul", "found", "power"] }
theorem hF_base_powers : F_base_powers.Ok := ⟨by kernel_rfl, by decide +kernel, by decide +kernel⟩
theorem s_base_powers {G : GE} (hA : GAll G) : OkB G F_base_powers 6 (bodyOf (fdOf 20)) m_base_powers := by
  have hF := hF_base_powers
  have hG := hA.ok
  unfold m_base_powers
  refine @okB_cons _ _ _ _ _ _ _ ?_ ?_
  refine @ok_setTupR _ _ _ hF _ _ _ ["found", "power"] _ _ _ _ _ _ (@TgN.cons _ _ _ _ _ _ at5 (by kernel_rfl) (@TgN.cons _ _ _ _ _ _ at4 (by kernel_rfl) (@TgN.nil _))) ?_ (Nat.le_of_ble_eq_true rfl) (by rfl) (by intro L a cd; kernel_rfl) (by intro L a cd; kernel_rfl)
  refine @okV_cons _ _ _ _ _ _ _ ?_ ?_ (fun _ => rfl)
  refine @ok_list _ _ _ _ _ _ ?_
  exact @okL_nil _ _ _
  refine @okV_cons _ _ _ _ _ _ _ ?_ ?_ (fun _ => rfl)
  refine @ok_call _ _ _ hF hG _ _ _ _ _ _ _ _ ?_ ((C_nat_of hA).mono (by omega)) (by kernel_rfl) (by kernel_rfl) (hA.mg5) (fun _ => rfl)
  refine @okL_cons _ _ _ _ _ _ _ ?_ ?_ (fun _ => rfl)
  exact (@ok_var _ _ _ hF _ _ _ _ at1 (by kernel_rfl))
  refine @okL_cons _ _ _ _ _ _ _ ?_ ?_ (fun _ => rfl)
  exact (@ok_var _ _ _ hF _ _ _ _ at2 (by kernel_rfl))
  exact @okL_nil _ _ _
  exact @okV_nil _ _ _
  refine @okB_cons _ _ _ _ _ _ _ ?_ ?_
  refine @ok_while _ _ _ _ _ _ _ _ ?_ ?_
  refine @ok_cmp _ _ _ _ _ _ _ _ _ _ ?_ ?_ (@c_le _ _ _) (by rfl)
  refine @ok_call _ _ _ hF hG _ _ _ _ _ _ _ _ ?_ ((C_compare hA).mono (by omega)) (by kernel_rfl) (by kernel_rfl) (hA.mg6) (fun _ => rfl)
  refine @okL_cons _ _ _ _ _ _ _ ?_ ?_ (fun _ => rfl)
  exact (@ok_var _ _ _ hF _ _ _ _ at5 (by kernel_rfl))
  refine @okL_cons _ _ _ _ _ _ _ ?_ ?_ (fun _ => rfl)
  exact (@ok_var _ _ _ hF _ _ _ _ at0 (by kernel_rfl))
  exact @okL_nil _ _ _
  exact @ok_int _ _ _ _ _ _ _ (by rfl)
  refine @okB_cons _ _ _ _ _ _ _ ?_ ?_
  refine @ok_app _ _ _ hF _ _ _ _ _ _ _ _ _ at4 (by kernel_rfl) ?_ (fun _ => rfl) (fun _ => rfl) (by intro L a cd; kernel_rfl) (by intro L a cd; kernel_rfl)
  exact (@ok_var _ _ _ hF _ _ _ _ at5 (by kernel_rfl))
  refine @okB_cons _ _ _ _ _ _ _ ?_ ?_
  refine @ok_set _ _ _ hF _ _ _ _ _ _ _ at5 (by kernel_rfl) ?_ (by intro L a cd; kernel_rfl)
  refine @ok_callV _ _ _ hF _ _ _ _ _ _ _ _ _ _ at3 (by kernel_rfl) ?_ (hA.f0 ▸ (C_mul_school hA).mono (by omega)) (hA.f1 ▸ (C_divrem_school hA).mono (by omega)) (fun _ => rfl)
  refine @okL_cons _ _ _ _ _ _ _ ?_ ?_ (fun _ => rfl)
  exact (@ok_var _ _ _ hF _ _ _ _ at5 (by kernel_rfl))
  refine @okL_cons _ _ _ _ _ _ _ ?_ ?_ (fun _ => rfl)
  exact (@ok_var _ _ _ hF _ _ _ _ at5 (by kernel_rfl))
  refine @okL_cons _ _ _ _ _ _ _ ?_ ?_ (fun _ => rfl)
  exact (@ok_var _ _ _ hF _ _ _ _ at2 (by kernel_rfl))
  exact @okL_nil _ _ _
  exact @okB_nil _ _ _
  refine @okB_cons _ _ _ _ _ _ _ ?_ ?_
  refine @ok_ret _ _ _ _ _ _ ?_
  exact (@ok_var _ _ _ hF _ _ _ _ at4 (by kernel_rfl))
  exact @okB_nil _ _ _
theorem C_base_powers {G : GE} (hA : GAll G) : CallOk G 7 (G.fa 22) c_base_powers :=
  callOk_of (n := 6) (F := F_base_powers) (k := 4) hA.ok hF_base_powers (hA.at 20) (s_base_powers hA) (by decide) (fun pm cd doc vs e => by
    match vs, e with
    | [v0, v1, v2, v3], _ => rfl) (by decide +kernel) (by kernel_rfl) (by kernel_rfl)
def F_with_noughts : FC := { name := "with_noughts", scope := scopeOf (fdOf 21), names := ["digits", "many"] }
theorem hF_with_noughts : F_with_noughts.Ok := ⟨by kernel_rfl, by decide +kernel, by decide +kernel⟩
theorem s_with_noughts {G : GE} (hA : GAll G) : OkB G F_with_noughts 1 (bodyOf (fdOf 21)) m_with_noughts := by
  have hF := hF_with_noughts
  have hG := hA.ok
  unfold m_with_noughts
  refine @okB_cons _ _ _ _ _ _ _ ?_ ?_
  refine @ok_ret _ _ _ _ _ _ ?_
  refine @ok_bin _ _ _ _ _ _ _ _ _ _ ?_ ?_ (@op_add _ _ _)
  refine @ok_bin _ _ _ _ _ _ _ _ _ _ ?_ ?_ (@op_mul _ _ _)
  refine @ok_list _ _ _ _ _ _ ?_
  refine @okL_cons _ _ _ _ _ _ _ ?_ ?_ (fun _ => rfl)
  exact @ok_int _ _ _ _ _ _ _ (by rfl)
  exact @okL_nil _ _ _
  refine @ok_bin _ _ _ _ _ _ _ _ _ _ ?_ ?_ (@op_sub _ _ _)
  exact (@ok_var _ _ _ hF _ _ _ _ at1 (by kernel_rfl))
  refine @ok_len _ _ _ hF hG _ _ _ _ ?_ (by kernel_rfl) (fun _ => rfl)
  exact (@ok_var _ _ _ hF _ _ _ _ at0 (by kernel_rfl))
  exact (@ok_var _ _ _ hF _ _ _ _ at0 (by kernel_rfl))
  exact @okB_nil _ _ _
theorem C_with_noughts {G : GE} (hA : GAll G) : CallOk G 2 (G.fa 23) c_with_noughts :=
  callOk_of (n := 1) (F := F_with_noughts) (k := 2) hA.ok hF_with_noughts (hA.at 21) (s_with_noughts hA) (by decide) (fun pm cd doc vs e => by
    match vs, e with
    | [v0, v1], _ => rfl) (by decide +kernel) (by kernel_rfl) (by kernel_rfl)
def F_digits_by_powers : FC := { name := "digits_by_powers", scope := scopeOf (fdOf 22), names := ["a", "powers", "base", "w", "least", "divrem", "power", "lesser", "many", "high", "low", "ahead"] }
theorem hF_digits_by_powers : F_digits_by_powers.Ok := ⟨by kernel_rfl, by decide +kernel, by decide +kernel⟩
theorem s_digits_by_powers {G : GE} (hA : GAll G) {n : Nat} {c : CF} (ih : CallOk G (7 + n) (G.fa 24) c) : OkB G F_digits_by_powers (7 + n) (bodyOf (fdOf 22)) (m_digits_by_powers c) := by
  have hF := hF_digits_by_powers
  have hG := hA.ok
  unfold m_digits_by_powers
  refine @okB_cons _ _ _ _ _ _ _ ?_ ?_
  refine @ok_ifs _ _ _ _ _ _ _ _ _ _ ?_ ?_ ?_
  refine @ok_or _ _ _ _ _ _ _ _ ?_ ?_
  refine @ok_cmp _ _ _ _ _ _ _ _ _ _ ?_ ?_ (@c_le _ _ _) (by rfl)
  refine @ok_len _ _ _ hF hG _ _ _ _ ?_ (by kernel_rfl) (fun _ => rfl)
  exact (@ok_var _ _ _ hF _ _ _ _ at0 (by kernel_rfl))
  exact (@ok_var _ _ _ hF _ _ _ _ at4 (by kernel_rfl))
  refine @ok_cmp _ _ _ _ _ _ _ _ _ _ ?_ ?_ (@c_eq _ _ _) (by rfl)
  refine @ok_len _ _ _ hF hG _ _ _ _ ?_ (by kernel_rfl) (fun _ => rfl)
  exact (@ok_var _ _ _ hF _ _ _ _ at1 (by kernel_rfl))
  exact @ok_int _ _ _ _ _ _ _ (by rfl)
  refine @okB_cons _ _ _ _ _ _ _ ?_ ?_
  refine @ok_ret _ _ _ _ _ _ ?_
  refine @ok_call _ _ _ hF hG _ _ _ _ _ _ _ _ ?_ ((C_digits_plain hA).mono (by omega)) (by kernel_rfl) (by kernel_rfl) (hA.mg19) (fun _ => rfl)
  refine @okL_cons _ _ _ _ _ _ _ ?_ ?_ (fun _ => rfl)
  exact (@ok_var _ _ _ hF _ _ _ _ at0 (by kernel_rfl))
  refine @okL_cons _ _ _ _ _ _ _ ?_ ?_ (fun _ => rfl)
  exact (@ok_var _ _ _ hF _ _ _ _ at2 (by kernel_rfl))
  refine @okL_cons _ _ _ _ _ _ _ ?_ ?_ (fun _ => rfl)
  exact (@ok_var _ _ _ hF _ _ _ _ at3 (by kernel_rfl))
  refine @okL_cons _ _ _ _ _ _ _ ?_ ?_ (fun _ => rfl)
  exact (@ok_var _ _ _ hF _ _ _ _ at5 (by kernel_rfl))
  exact @okL_nil _ _ _
  exact @okB_nil _ _ _
  exact @okB_nil _ _ _
  refine @okB_cons _ _ _ _ _ _ _ ?_ ?_
  refine @ok_setTupR _ _ _ hF _ _ _ ["power", "lesser", "many"] _ _ _ _ _ _ (@TgN.cons _ _ _ _ _ _ at8 (by kernel_rfl) (@TgN.cons _ _ _ _ _ _ at7 (by kernel_rfl) (@TgN.cons _ _ _ _ _ _ at6 (by kernel_rfl) (@TgN.nil _)))) ?_ (Nat.le_of_ble_eq_true rfl) (by rfl) (by intro L a cd; kernel_rfl) (by intro L a cd; kernel_rfl)
  refine @okV_cons _ _ _ _ _ _ _ ?_ ?_ (fun _ => rfl)
  refine @ok_idx _ _ _ _ _ _ _ _ ?_ ?_ (fun _ _ => rfl)
  exact (@ok_var _ _ _ hF _ _ _ _ at1 (by kernel_rfl))
  refine @ok_neg _ _ _ _ _ _ ?_
  exact @ok_int _ _ _ _ _ _ _ (by rfl)
  refine @okV_cons _ _ _ _ _ _ _ ?_ ?_ (fun _ => rfl)
  refine @ok_slice _ _ _ _ _ _ _ _ _ _ _ ?_ ?_ ?_ (fun _ _ => rfl)
  exact (@ok_var _ _ _ hF _ _ _ _ at1 (by kernel_rfl))
  exact rfl
  refine @ok_neg _ _ _ _ _ _ ?_
  exact @ok_int _ _ _ _ _ _ _ (by rfl)
  refine @okV_cons _ _ _ _ _ _ _ ?_ ?_ (fun _ => rfl)
  refine @ok_bin _ _ _ _ _ _ _ _ _ _ ?_ ?_ (@op_shl _ _ _)
  exact @ok_int _ _ _ _ _ _ _ (by rfl)
  refine @ok_bin _ _ _ _ _ _ _ _ _ _ ?_ ?_ (@op_sub _ _ _)
  refine @ok_len _ _ _ hF hG _ _ _ _ ?_ (by kernel_rfl) (fun _ => rfl)
  exact (@ok_var _ _ _ hF _ _ _ _ at1 (by kernel_rfl))
  exact @ok_int _ _ _ _ _ _ _ (by rfl)
  exact @okV_nil _ _ _
  refine @okB_cons _ _ _ _ _ _ _ ?_ ?_
  refine @ok_ifs _ _ _ _ _ _ _ _ _ _ ?_ ?_ ?_
  refine @ok_cmp _ _ _ _ _ _ _ _ _ _ ?_ ?_ (@c_lt _ _ _) (by rfl)
  refine @ok_call _ _ _ hF hG _ _ _ _ _ _ _ _ ?_ ((C_compare hA).mono (by omega)) (by kernel_rfl) (by kernel_rfl) (hA.mg6) (fun _ => rfl)
  refine @okL_cons _ _ _ _ _ _ _ ?_ ?_ (fun _ => rfl)
  exact (@ok_var _ _ _ hF _ _ _ _ at0 (by kernel_rfl))
  refine @okL_cons _ _ _ _ _ _ _ ?_ ?_ (fun _ => rfl)
  exact (@ok_var _ _ _ hF _ _ _ _ at6 (by kernel_rfl))
  exact @okL_nil _ _ _
  exact @ok_int _ _ _ _ _ _ _ (by rfl)
  refine @okB_cons _ _ _ _ _ _ _ ?_ ?_
  refine @ok_ret _ _ _ _ _ _ ?_
  refine @ok_call _ _ _ hF hG _ _ _ _ _ _ _ _ ?_ (ih) (by kernel_rfl) (by kernel_rfl) (hA.mg22) (fun _ => rfl)
  refine @okL_cons _ _ _ _ _ _ _ ?_ ?_ (fun _ => rfl)
  exact (@ok_var _ _ _ hF _ _ _ _ at0 (by kernel_rfl))
  refine @okL_cons _ _ _ _ _ _ _ ?_ ?_ (fun _ => rfl)
  exact (@ok_var _ _ _ hF _ _ _ _ at7 (by kernel_rfl))
  refine @okL_cons _ _ _ _ _ _ _ ?_ ?_ (fun _ => rfl)
  exact (@ok_var _ _ _ hF _ _ _ _ at2 (by kernel_rfl))
  refine @okL_cons _ _ _ _ _ _ _ ?_ ?_ (fun _ => rfl)
  exact (@ok_var _ _ _ hF _ _ _ _ at3 (by kernel_rfl))
  refine @okL_cons _ _ _ _ _ _ _ ?_ ?_ (fun _ => rfl)
  exact (@ok_var _ _ _ hF _ _ _ _ at4 (by kernel_rfl))
  refine @okL_cons _ _ _ _ _ _ _ ?_ ?_ (fun _ => rfl)
  exact (@ok_var _ _ _ hF _ _ _ _ at5 (by kernel_rfl))
  exact @okL_nil _ _ _
  exact @okB_nil _ _ _
  exact @okB_nil _ _ _
  refine @okB_cons _ _ _ _ _ _ _ ?_ ?_
  refine @ok_unp _ _ _ hF _ _ _ _ _ _ _ (@Tg.cons _ _ _ _ _ _ _ at9 (by kernel_rfl) (@Tg.cons _ _ _ _ _ _ _ at10 (by kernel_rfl) (@Tg.nil _))) ?_ (by intro L a cd; kernel_rfl) (by intro L a cd; kernel_rfl)
  refine @ok_callV _ _ _ hF _ _ _ _ _ _ _ _ _ _ at5 (by kernel_rfl) ?_ (hA.f0 ▸ (C_mul_school hA).mono (by omega)) (hA.f1 ▸ (C_divrem_school hA).mono (by omega)) (fun _ => rfl)
  refine @okL_cons _ _ _ _ _ _ _ ?_ ?_ (fun _ => rfl)
  exact (@ok_var _ _ _ hF _ _ _ _ at0 (by kernel_rfl))
  refine @okL_cons _ _ _ _ _ _ _ ?_ ?_ (fun _ => rfl)
  exact (@ok_var _ _ _ hF _ _ _ _ at6 (by kernel_rfl))
  refine @okL_cons _ _ _ _ _ _ _ ?_ ?_ (fun _ => rfl)
  exact (@ok_var _ _ _ hF _ _ _ _ at3 (by kernel_rfl))
  exact @okL_nil _ _ _
  refine @okB_cons _ _ _ _ _ _ _ ?_ ?_
  refine @ok_set _ _ _ hF _ _ _ _ _ _ _ at11 (by kernel_rfl) ?_ (by intro L a cd; kernel_rfl)
  refine @ok_call _ _ _ hF hG _ _ _ _ _ _ _ _ ?_ (ih) (by kernel_rfl) (by kernel_rfl) (hA.mg22) (fun _ => rfl)
  refine @okL_cons _ _ _ _ _ _ _ ?_ ?_ (fun _ => rfl)
  exact (@ok_var _ _ _ hF _ _ _ _ at9 (by kernel_rfl))
  refine @okL_cons _ _ _ _ _ _ _ ?_ ?_ (fun _ => rfl)
  exact (@ok_var _ _ _ hF _ _ _ _ at7 (by kernel_rfl))
  refine @okL_cons _ _ _ _ _ _ _ ?_ ?_ (fun _ => rfl)
  exact (@ok_var _ _ _ hF _ _ _ _ at2 (by kernel_rfl))
  refine @okL_cons _ _ _ _ _ _ _ ?_ ?_ (fun _ => rfl)
  exact (@ok_var _ _ _ hF _ _ _ _ at3 (by kernel_rfl))
  refine @okL_cons _ _ _ _ _ _ _ ?_ ?_ (fun _ => rfl)
  exact (@ok_var _ _ _ hF _ _ _ _ at4 (by kernel_rfl))
  refine @okL_cons _ _ _ _ _ _ _ ?_ ?_ (fun _ => rfl)
  exact (@ok_var _ _ _ hF _ _ _ _ at5 (by kernel_rfl))
  exact @okL_nil _ _ _
  refine @okB_cons _ _ _ _ _ _ _ ?_ ?_
  refine @ok_ret _ _ _ _ _ _ ?_
  refine @ok_bin _ _ _ _ _ _ _ _ _ _ ?_ ?_ (@op_add _ _ _)
  exact (@ok_var _ _ _ hF _ _ _ _ at11 (by kernel_rfl))
  refine @ok_call _ _ _ hF hG _ _ _ _ _ _ _ _ ?_ ((C_with_noughts hA).mono (by omega)) (by kernel_rfl) (by kernel_rfl) (hA.mg21) (fun _ => rfl)
  refine @okL_cons _ _ _ _ _ _ _ ?_ ?_ (fun _ => rfl)
  refine @ok_call _ _ _ hF hG _ _ _ _ _ _ _ _ ?_ (ih) (by kernel_rfl) (by kernel_rfl) (hA.mg22) (fun _ => rfl)
  refine @okL_cons _ _ _ _ _ _ _ ?_ ?_ (fun _ => rfl)
  exact (@ok_var _ _ _ hF _ _ _ _ at10 (by kernel_rfl))
  refine @okL_cons _ _ _ _ _ _ _ ?_ ?_ (fun _ => rfl)
  exact (@ok_var _ _ _ hF _ _ _ _ at7 (by kernel_rfl))
  refine @okL_cons _ _ _ _ _ _ _ ?_ ?_ (fun _ => rfl)
  exact (@ok_var _ _ _ hF _ _ _ _ at2 (by kernel_rfl))
  refine @okL_cons _ _ _ _ _ _ _ ?_ ?_ (fun _ => rfl)
  exact (@ok_var _ _ _ hF _ _ _ _ at3 (by kernel_rfl))
  refine @okL_cons _ _ _ _ _ _ _ ?_ ?_ (fun _ => rfl)
  exact (@ok_var _ _ _ hF _ _ _ _ at4 (by kernel_rfl))
  refine @okL_cons _ _ _ _ _ _ _ ?_ ?_ (fun _ => rfl)
  exact (@ok_var _ _ _ hF _ _ _ _ at5 (by kernel_rfl))
  exact @okL_nil _ _ _
  refine @okL_cons _ _ _ _ _ _ _ ?_ ?_ (fun _ => rfl)
  exact (@ok_var _ _ _ hF _ _ _ _ at8 (by kernel_rfl))
  exact @okL_nil _ _ _
  exact @okB_nil _ _ _
theorem Cn_digits_by_powers {G : GE} (hA : GAll G) (n : Nat) : CallOk G (7 + n) (G.fa 24) (c_digits_by_powers n) := by
  induction n with
  | zero => exact (hA.at 22).none
  | succ n ih => exact callOk_of (n := (7 + n)) (F := F_digits_by_powers) (k := 6) hA.ok hF_digits_by_powers (hA.at 22) (s_digits_by_powers hA ih) (by decide) (fun pm cd doc vs e => by
    match vs, e with
    | [v0, v1, v2, v3, v4, v5], _ => rfl) (by decide +kernel) (by kernel_rfl) (by kernel_rfl)
theorem C_digits_by_powers {G : GE} (hA : GAll G) : CallOk G 57 (G.fa 24) (c_digits_by_powers 50) := Cn_digits_by_powers hA 50
def F_to_digits : FC := { name := "to_digits", scope := scopeOf (fdOf 23), names := ["a", "base", "w", "least", "divrem", "mul", "powers"] }
theorem hF_to_digits : F_to_digits.Ok := ⟨by kernel_rfl, by decide +kernel, by decide +kernel⟩
theorem s_to_digits {G : GE} (hA : GAll G) : OkB G F_to_digits 57 (bodyOf (fdOf 23)) m_to_digits := by
  have hF := hF_to_digits
  have hG := hA.ok
  unfold m_to_digits
  refine @okB_cons _ _ _ _ _ _ _ ?_ ?_
  refine @ok_exp _ _ _ _ _ _ ?_ (by intro L a cd; kernel_rfl) (by intro L a cd; kernel_rfl)
  refine @ok_call _ _ _ hF hG _ _ _ _ _ _ _ _ ?_ ((C_check_base hA).mono (by omega)) (by kernel_rfl) (by kernel_rfl) (hA.mg17) (fun _ => rfl)
  refine @okL_cons _ _ _ _ _ _ _ ?_ ?_ (fun _ => rfl)
  exact (@ok_var _ _ _ hF _ _ _ _ at1 (by kernel_rfl))
  exact @okL_nil _ _ _
  refine @okB_cons _ _ _ _ _ _ _ ?_ ?_
  refine @ok_set _ _ _ hF _ _ _ _ _ _ _ at6 (by kernel_rfl) ?_ (by intro L a cd; kernel_rfl)
  refine @ok_if _ _ _ _ _ _ _ _ _ _ ?_ ?_ ?_
  refine @ok_cmp _ _ _ _ _ _ _ _ _ _ ?_ ?_ (@c_gt _ _ _) (by rfl)
  refine @ok_len _ _ _ hF hG _ _ _ _ ?_ (by kernel_rfl) (fun _ => rfl)
  exact (@ok_var _ _ _ hF _ _ _ _ at0 (by kernel_rfl))
  exact (@ok_var _ _ _ hF _ _ _ _ at3 (by kernel_rfl))
  refine @ok_call _ _ _ hF hG _ _ _ _ _ _ _ _ ?_ ((C_base_powers hA).mono (by omega)) (by kernel_rfl) (by kernel_rfl) (hA.mg20) (fun _ => rfl)
  refine @okL_cons _ _ _ _ _ _ _ ?_ ?_ (fun _ => rfl)
  exact (@ok_var _ _ _ hF _ _ _ _ at0 (by kernel_rfl))
  refine @okL_cons _ _ _ _ _ _ _ ?_ ?_ (fun _ => rfl)
  exact (@ok_var _ _ _ hF _ _ _ _ at1 (by kernel_rfl))
  refine @okL_cons _ _ _ _ _ _ _ ?_ ?_ (fun _ => rfl)
  exact (@ok_var _ _ _ hF _ _ _ _ at2 (by kernel_rfl))
  refine @okL_cons _ _ _ _ _ _ _ ?_ ?_ (fun _ => rfl)
  exact (@ok_var _ _ _ hF _ _ _ _ at5 (by kernel_rfl))
  exact @okL_nil _ _ _
  refine @ok_list _ _ _ _ _ _ ?_
  exact @okL_nil _ _ _
  refine @okB_cons _ _ _ _ _ _ _ ?_ ?_
  refine @ok_ret _ _ _ _ _ _ ?_
  refine @ok_call _ _ _ hF hG _ _ _ _ _ _ _ _ ?_ ((C_digits_by_powers hA).mono (by omega)) (by kernel_rfl) (by kernel_rfl) (hA.mg22) (fun _ => rfl)
  refine @okL_cons _ _ _ _ _ _ _ ?_ ?_ (fun _ => rfl)
  exact (@ok_var _ _ _ hF _ _ _ _ at0 (by kernel_rfl))
  refine @okL_cons _ _ _ _ _ _ _ ?_ ?_ (fun _ => rfl)
  exact (@ok_var _ _ _ hF _ _ _ _ at6 (by kernel_rfl))
  refine @okL_cons _ _ _ _ _ _ _ ?_ ?_ (fun _ => rfl)
  exact (@ok_var _ _ _ hF _ _ _ _ at1 (by kernel_rfl))
  refine @okL_cons _ _ _ _ _ _ _ ?_ ?_ (fun _ => rfl)
  exact (@ok_var _ _ _ hF _ _ _ _ at2 (by kernel_rfl))
  refine @okL_cons _ _ _ _ _ _ _ ?_ ?_ (fun _ => rfl)
  exact (@ok_var _ _ _ hF _ _ _ _ at3 (by kernel_rfl))
  refine @okL_cons _ _ _ _ _ _ _ ?_ ?_ (fun _ => rfl)
  exact (@ok_var _ _ _ hF _ _ _ _ at4 (by kernel_rfl))
  exact @okL_nil _ _ _
  exact @okB_nil _ _ _
theorem C_to_digits {G : GE} (hA : GAll G) : CallOk G 58 (G.fa 25) c_to_digits :=
  callOk_of (n := 57) (F := F_to_digits) (k := 6) hA.ok hF_to_digits (hA.at 23) (s_to_digits hA) (by decide) (fun pm cd doc vs e => by
    match vs, e with
    | [v0, v1, v2, v3, v4, v5], _ => rfl) (by decide +kernel) (by kernel_rfl) (by kernel_rfl)
def F_law_climbed : FC := { name := "_law_climbed", scope := scopeOf (fdOf 35), names := ["hill", "many"] }
theorem hF_law_climbed : F_law_climbed.Ok := ⟨by kernel_rfl, by decide +kernel, by decide +kernel⟩
theorem s_law_climbed {G : GE} (hA : GAll G) : OkB G F_law_climbed 1 (bodyOf (fdOf 35)) m_law_climbed := by
  have hF := hF_law_climbed
  have hG := hA.ok
  unfold m_law_climbed
  refine @okB_cons _ _ _ _ _ _ _ ?_ ?_
  refine @ok_setIdx _ _ _ hF _ _ _ _ _ _ _ _ _ _ at0 (by kernel_rfl) ?_ ?_ (by intro L a cd; kernel_rfl)
  exact @ok_int _ _ _ _ _ _ _ (by rfl)
  refine @ok_bin _ _ _ _ _ _ _ _ _ _ ?_ ?_ (@op_add _ _ _)
  refine @ok_idx _ _ _ _ _ _ _ _ ?_ ?_ (fun _ _ => rfl)
  exact (@ok_var _ _ _ hF _ _ _ _ at0 (by kernel_rfl))
  exact @ok_int _ _ _ _ _ _ _ (by rfl)
  exact @ok_int _ _ _ _ _ _ _ (by rfl)
  refine @okB_cons _ _ _ _ _ _ _ ?_ ?_
  refine @ok_ifs _ _ _ _ _ _ _ _ _ _ ?_ ?_ ?_
  refine @ok_cmp _ _ _ _ _ _ _ _ _ _ ?_ ?_ (@c_le _ _ _) (by rfl)
  refine @ok_idx _ _ _ _ _ _ _ _ ?_ ?_ (fun _ _ => rfl)
  exact (@ok_var _ _ _ hF _ _ _ _ at0 (by kernel_rfl))
  exact @ok_int _ _ _ _ _ _ _ (by rfl)
  refine @ok_len _ _ _ hF hG _ _ _ _ ?_ (by kernel_rfl) (fun _ => rfl)
  refine @ok_idx _ _ _ _ _ _ _ _ ?_ ?_ (fun _ _ => rfl)
  exact (@ok_var _ _ _ hF _ _ _ _ at0 (by kernel_rfl))
  exact @ok_int _ _ _ _ _ _ _ (by rfl)
  refine @okB_cons _ _ _ _ _ _ _ ?_ ?_
  refine @ok_ret _ _ _ _ _ _ ?_
  refine @ok_bin _ _ _ _ _ _ _ _ _ _ ?_ ?_ (@op_mod _ _ _)
  refine @ok_idx _ _ _ _ _ _ _ _ ?_ ?_ (fun _ _ => rfl)
  refine @ok_idx _ _ _ _ _ _ _ _ ?_ ?_ (fun _ _ => rfl)
  exact (@ok_var _ _ _ hF _ _ _ _ at0 (by kernel_rfl))
  exact @ok_int _ _ _ _ _ _ _ (by rfl)
  refine @ok_bin _ _ _ _ _ _ _ _ _ _ ?_ ?_ (@op_sub _ _ _)
  refine @ok_idx _ _ _ _ _ _ _ _ ?_ ?_ (fun _ _ => rfl)
  exact (@ok_var _ _ _ hF _ _ _ _ at0 (by kernel_rfl))
  exact @ok_int _ _ _ _ _ _ _ (by rfl)
  exact @ok_int _ _ _ _ _ _ _ (by rfl)
  exact (@ok_var _ _ _ hF _ _ _ _ at1 (by kernel_rfl))
  exact @okB_nil _ _ _
  exact @okB_nil _ _ _
  refine @okB_cons _ _ _ _ _ _ _ ?_ ?_
  refine @ok_ret _ _ _ _ _ _ ?_
  refine @ok_bin _ _ _ _ _ _ _ _ _ _ ?_ ?_ (@op_mod _ _ _)
  refine @ok_bin _ _ _ _ _ _ _ _ _ _ ?_ ?_ (@op_add _ _ _)
  refine @ok_bin _ _ _ _ _ _ _ _ _ _ ?_ ?_ (@op_add _ _ _)
  refine @ok_bin _ _ _ _ _ _ _ _ _ _ ?_ ?_ (@op_mul _ _ _)
  exact @ok_int _ _ _ _ _ _ _ (by rfl)
  refine @ok_idx _ _ _ _ _ _ _ _ ?_ ?_ (fun _ _ => rfl)
  exact (@ok_var _ _ _ hF _ _ _ _ at0 (by kernel_rfl))
  exact @ok_int _ _ _ _ _ _ _ (by rfl)
  refine @ok_bin _ _ _ _ _ _ _ _ _ _ ?_ ?_ (@op_div _ _ _)
  refine @ok_idx _ _ _ _ _ _ _ _ ?_ ?_ (fun _ _ => rfl)
  exact (@ok_var _ _ _ hF _ _ _ _ at0 (by kernel_rfl))
  exact @ok_int _ _ _ _ _ _ _ (by rfl)
  exact @ok_int _ _ _ _ _ _ _ (by rfl)
  exact @ok_int _ _ _ _ _ _ _ (by rfl)
  exact (@ok_var _ _ _ hF _ _ _ _ at1 (by kernel_rfl))
  exact @okB_nil _ _ _
theorem C_law_climbed {G : GE} (hA : GAll G) : RefOk G 2 (G.fa 37) c_law_climbed :=
  refOk_of (n := 1) (F := F_law_climbed) (k := 1) hA.ok hF_law_climbed (hA.at 35) (s_law_climbed hA) (by decide) (fun pm cd doc vs e => by
    match vs, e with
    | [v0, v1], _ => rfl) (by decide +kernel) (by kernel_rfl) (by kernel_rfl)
def F_law_limbs : FC := { name := "_law_limbs", scope := scopeOf (fdOf 36), names := ["number", "w", "found"] }
theorem hF_law_limbs : F_law_limbs.Ok := ⟨by kernel_rfl, by decide +kernel, by decide +kernel⟩
theorem s_law_limbs {G : GE} (hA : GAll G) : OkB G F_law_limbs 1 (bodyOf (fdOf 36)) m_law_limbs := by
  have hF := hF_law_limbs
  have hG := hA.ok
  unfold m_law_limbs
  refine @okB_cons _ _ _ _ _ _ _ ?_ ?_
  refine @ok_set _ _ _ hF _ _ _ _ _ _ _ at2 (by kernel_rfl) ?_ (by intro L a cd; kernel_rfl)
  refine @ok_list _ _ _ _ _ _ ?_
  exact @okL_nil _ _ _
  refine @okB_cons _ _ _ _ _ _ _ ?_ ?_
  refine @ok_while _ _ _ _ _ _ _ _ ?_ ?_
  refine @ok_cmp _ _ _ _ _ _ _ _ _ _ ?_ ?_ (@c_gt _ _ _) (by rfl)
  exact (@ok_var _ _ _ hF _ _ _ _ at0 (by kernel_rfl))
  exact @ok_int _ _ _ _ _ _ _ (by rfl)
  refine @okB_cons _ _ _ _ _ _ _ ?_ ?_
  refine @ok_app _ _ _ hF _ _ _ _ _ _ _ _ _ at2 (by kernel_rfl) ?_ (fun _ => rfl) (fun _ => rfl) (by intro L a cd; kernel_rfl) (by intro L a cd; kernel_rfl)
  refine @ok_bin _ _ _ _ _ _ _ _ _ _ ?_ ?_ (@op_mod _ _ _)
  exact (@ok_var _ _ _ hF _ _ _ _ at0 (by kernel_rfl))
  refine @ok_bin _ _ _ _ _ _ _ _ _ _ ?_ ?_ (@op_pow _ _ _)
  exact @ok_int _ _ _ _ _ _ _ (by rfl)
  exact (@ok_var _ _ _ hF _ _ _ _ at1 (by kernel_rfl))
  refine @okB_cons _ _ _ _ _ _ _ ?_ ?_
  refine @ok_set _ _ _ hF _ _ _ _ _ _ _ at0 (by kernel_rfl) ?_ (by intro L a cd; kernel_rfl)
  refine @ok_bin _ _ _ _ _ _ _ _ _ _ ?_ ?_ (@op_div _ _ _)
  exact (@ok_var _ _ _ hF _ _ _ _ at0 (by kernel_rfl))
  refine @ok_bin _ _ _ _ _ _ _ _ _ _ ?_ ?_ (@op_pow _ _ _)
  exact @ok_int _ _ _ _ _ _ _ (by rfl)
  exact (@ok_var _ _ _ hF _ _ _ _ at1 (by kernel_rfl))
  exact @okB_nil _ _ _
  refine @okB_cons _ _ _ _ _ _ _ ?_ ?_
  refine @ok_ret _ _ _ _ _ _ ?_
  exact (@ok_var _ _ _ hF _ _ _ _ at2 (by kernel_rfl))
  exact @okB_nil _ _ _
theorem C_law_limbs {G : GE} (hA : GAll G) : CallOk G 2 (G.fa 38) c_law_limbs :=
  callOk_of (n := 1) (F := F_law_limbs) (k := 2) hA.ok hF_law_limbs (hA.at 36) (s_law_limbs hA) (by decide) (fun pm cd doc vs e => by
    match vs, e with
    | [v0, v1], _ => rfl) (by decide +kernel) (by kernel_rfl) (by kernel_rfl)
def F_law_worth : FC := { name := "_law_worth", scope := scopeOf (fdOf 37), names := ["limbs", "w", "worth", "limb"] }
theorem hF_law_worth : F_law_worth.Ok := ⟨by kernel_rfl, by decide +kernel, by decide +kernel⟩
theorem s_law_worth {G : GE} (hA : GAll G) : OkB G F_law_worth 1 (bodyOf (fdOf 37)) m_law_worth := by
  have hF := hF_law_worth
  have hG := hA.ok
  unfold m_law_worth
  refine @okB_cons _ _ _ _ _ _ _ ?_ ?_
  refine @ok_set _ _ _ hF _ _ _ _ _ _ _ at2 (by kernel_rfl) ?_ (by intro L a cd; kernel_rfl)
  exact @ok_int _ _ _ _ _ _ _ (by rfl)
  refine @okB_cons _ _ _ _ _ _ _ ?_ ?_
  refine @ok_for _ _ _ _ _ _ _ _ _ _ ?_ (step1_nx _) ?_ (fun _ _ _ _ => rfl)
  refine @okI_seq _ _ _ hF _ _ _ _ _ _ at3 (by kernel_rfl) ?_
  refine @ok_rev _ _ _ _ _ _ _ _ ?_ (@ok_neg _ _ _ _ _ _ (@ok_int _ _ _ _ _ _ _ (by rfl))) (fun _ _ => rfl)
  exact (@ok_var _ _ _ hF _ _ _ _ at0 (by kernel_rfl))
  refine @okB_cons _ _ _ _ _ _ _ ?_ ?_
  refine @ok_set _ _ _ hF _ _ _ _ _ _ _ at2 (by kernel_rfl) ?_ (by intro L a cd; kernel_rfl)
  refine @ok_bin _ _ _ _ _ _ _ _ _ _ ?_ ?_ (@op_add _ _ _)
  refine @ok_bin _ _ _ _ _ _ _ _ _ _ ?_ ?_ (@op_mul _ _ _)
  exact (@ok_var _ _ _ hF _ _ _ _ at2 (by kernel_rfl))
  refine @ok_bin _ _ _ _ _ _ _ _ _ _ ?_ ?_ (@op_pow _ _ _)
  exact @ok_int _ _ _ _ _ _ _ (by rfl)
  exact (@ok_var _ _ _ hF _ _ _ _ at1 (by kernel_rfl))
  exact (@ok_var _ _ _ hF _ _ _ _ at3 (by kernel_rfl))
  exact @okB_nil _ _ _
  refine @okB_cons _ _ _ _ _ _ _ ?_ ?_
  refine @ok_ret _ _ _ _ _ _ ?_
  exact (@ok_var _ _ _ hF _ _ _ _ at2 (by kernel_rfl))
  exact @okB_nil _ _ _
theorem C_law_worth {G : GE} (hA : GAll G) : CallOk G 2 (G.fa 39) c_law_worth :=
  callOk_of (n := 1) (F := F_law_worth) (k := 2) hA.ok hF_law_worth (hA.at 37) (s_law_worth hA) (by decide) (fun pm cd doc vs e => by
    match vs, e with
    | [v0, v1], _ => rfl) (by decide +kernel) (by kernel_rfl) (by kernel_rfl)
def F_law_written : FC := { name := "_law_written", scope := scopeOf (fdOf 38), names := ["number", "base", "w", "digits", "found", "at", "digit"] }
theorem hF_law_written : F_law_written.Ok := ⟨by kernel_rfl, by decide +kernel, by decide +kernel⟩
theorem s_law_written {G : GE} (hA : GAll G) {n : Nat} {c : CF} (ih : CallOk G (58 + n) (G.fa 40) c) : OkB G F_law_written (58 + n) (bodyOf (fdOf 38)) (m_law_written c) := by
  have hF := hF_law_written
  have hG := hA.ok
  unfold m_law_written
  refine @okB_cons _ _ _ _ _ _ _ ?_ ?_
  refine @ok_set _ _ _ hF _ _ _ _ _ _ _ at3 (by kernel_rfl) ?_ (by intro L a cd; kernel_rfl)
  refine @ok_call _ _ _ hF hG _ _ _ _ _ _ _ _ ?_ ((C_to_digits hA).mono (by omega)) (by kernel_rfl) (by kernel_rfl) (hA.mg23) (fun _ => rfl)
  refine @okL_cons _ _ _ _ _ _ _ ?_ ?_ (fun _ => rfl)
  exact (@ok_var _ _ _ hF _ _ _ _ at0 (by kernel_rfl))
  refine @okL_cons _ _ _ _ _ _ _ ?_ ?_ (fun _ => rfl)
  exact (@ok_var _ _ _ hF _ _ _ _ at1 (by kernel_rfl))
  refine @okL_cons _ _ _ _ _ _ _ ?_ ?_ (fun _ => rfl)
  exact (@ok_var _ _ _ hF _ _ _ _ at2 (by kernel_rfl))
  refine @okL_cons _ _ _ _ _ _ _ ?_ ?_ (fun _ => rfl)
  exact @ok_int _ _ _ _ _ _ _ (by rfl)
  refine @okL_cons _ _ _ _ _ _ _ ?_ ?_ (fun _ => rfl)
  exact @ok_glob _ _ _ hF hG _ _ _ (by kernel_rfl) (by kernel_rfl) (hA.m1)
  refine @okL_cons _ _ _ _ _ _ _ ?_ ?_ (fun _ => rfl)
  exact @ok_glob _ _ _ hF hG _ _ _ (by kernel_rfl) (by kernel_rfl) (hA.m0)
  exact @okL_nil _ _ _
  refine @okB_cons _ _ _ _ _ _ _ ?_ ?_
  refine @ok_set _ _ _ hF _ _ _ _ _ _ _ at4 (by kernel_rfl) ?_ (by intro L a cd; kernel_rfl)
  refine @ok_list _ _ _ _ _ _ ?_
  exact @okL_nil _ _ _
  refine @okB_cons _ _ _ _ _ _ _ ?_ ?_
  refine @ok_for _ _ _ _ _ _ _ _ _ _ ?_ (step2_nx _ _) ?_ (fun _ _ _ _ => rfl)
  refine @okI_enum _ _ _ hF hG _ _ _ _ _ _ _ _ _ _ _ _ _ _ at5 (by kernel_rfl) at6 (by kernel_rfl) ?_ (by kernel_rfl) (fun _ => rfl)
  exact (@ok_var _ _ _ hF _ _ _ _ at3 (by kernel_rfl))
  refine @okB_cons _ _ _ _ _ _ _ ?_ ?_
  refine @ok_ifs _ _ _ _ _ _ _ _ _ _ ?_ ?_ ?_
  refine @ok_cmp _ _ _ _ _ _ _ _ _ _ ?_ ?_ (@c_gt _ _ _) (by rfl)
  exact (@ok_var _ _ _ hF _ _ _ _ at6 (by kernel_rfl))
  exact @ok_int _ _ _ _ _ _ _ (by rfl)
  refine @okB_cons _ _ _ _ _ _ _ ?_ ?_
  refine @ok_app _ _ _ hF _ _ _ _ _ _ _ _ _ at4 (by kernel_rfl) ?_ (fun _ => rfl) (fun _ => rfl) (by intro L a cd; kernel_rfl) (by intro L a cd; kernel_rfl)
  refine @ok_tup _ _ _ _ _ _ _ ?_ (Nat.le_of_ble_eq_true rfl)
  refine @okL_cons _ _ _ _ _ _ _ ?_ ?_ (fun _ => rfl)
  refine @ok_call _ _ _ hF hG _ _ _ _ _ _ _ _ ?_ (ih) (by kernel_rfl) (by kernel_rfl) (hA.mg38) (fun _ => rfl)
  refine @okL_cons _ _ _ _ _ _ _ ?_ ?_ (fun _ => rfl)
  refine @ok_call _ _ _ hF hG _ _ _ _ _ _ _ _ ?_ ((C_law_limbs hA).mono (by omega)) (by kernel_rfl) (by kernel_rfl) (hA.mg36) (fun _ => rfl)
  refine @okL_cons _ _ _ _ _ _ _ ?_ ?_ (fun _ => rfl)
  refine @ok_bin _ _ _ _ _ _ _ _ _ _ ?_ ?_ (@op_sub _ _ _)
  refine @ok_bin _ _ _ _ _ _ _ _ _ _ ?_ ?_ (@op_sub _ _ _)
  refine @ok_len _ _ _ hF hG _ _ _ _ ?_ (by kernel_rfl) (fun _ => rfl)
  exact (@ok_var _ _ _ hF _ _ _ _ at3 (by kernel_rfl))
  exact @ok_int _ _ _ _ _ _ _ (by rfl)
  exact (@ok_var _ _ _ hF _ _ _ _ at5 (by kernel_rfl))
  refine @okL_cons _ _ _ _ _ _ _ ?_ ?_ (fun _ => rfl)
  exact (@ok_var _ _ _ hF _ _ _ _ at2 (by kernel_rfl))
  exact @okL_nil _ _ _
  refine @okL_cons _ _ _ _ _ _ _ ?_ ?_ (fun _ => rfl)
  exact (@ok_var _ _ _ hF _ _ _ _ at1 (by kernel_rfl))
  refine @okL_cons _ _ _ _ _ _ _ ?_ ?_ (fun _ => rfl)
  exact (@ok_var _ _ _ hF _ _ _ _ at2 (by kernel_rfl))
  exact @okL_nil _ _ _
  refine @okL_cons _ _ _ _ _ _ _ ?_ ?_ (fun _ => rfl)
  exact (@ok_var _ _ _ hF _ _ _ _ at6 (by kernel_rfl))
  exact @okL_nil _ _ _
  exact @okB_nil _ _ _
  exact @okB_nil _ _ _
  exact @okB_nil _ _ _
  refine @okB_cons _ _ _ _ _ _ _ ?_ ?_
  refine @ok_ret _ _ _ _ _ _ ?_
  refine @ok_tupOf _ _ _ hF hG _ _ _ _ ?_ (by kernel_rfl) (fun _ => rfl)
  exact (@ok_var _ _ _ hF _ _ _ _ at4 (by kernel_rfl))
  exact @okB_nil _ _ _
theorem Cn_law_written {G : GE} (hA : GAll G) (n : Nat) : CallOk G (58 + n) (G.fa 40) (c_law_written n) := by
  induction n with
  | zero => exact (hA.at 38).none
  | succ n ih => exact callOk_of (n := (58 + n)) (F := F_law_written) (k := 3) hA.ok hF_law_written (hA.at 38) (s_law_written hA ih) (by decide) (fun pm cd doc vs e => by
    match vs, e with
    | [v0, v1, v2], _ => rfl) (by decide +kernel) (by kernel_rfl) (by kernel_rfl)
theorem C_law_written {G : GE} (hA : GAll G) : CallOk G 108 (G.fa 40) (c_law_written 50) := Cn_law_written hA 50
def F_law_read : FC := { name := "_law_read", scope := scopeOf (fdOf 39), names := ["row", "base", "w", "found", "exponent", "digit", "step"] }
theorem hF_law_read : F_law_read.Ok := ⟨by kernel_rfl, by decide +kernel, by decide +kernel⟩
theorem s_law_read {G : GE} (hA : GAll G) {n : Nat} {c : CF} (ih : CallOk G (6 + n) (G.fa 41) c) : OkB G F_law_read (6 + n) (bodyOf (fdOf 39)) (m_law_read c) := by
  have hF := hF_law_read
  have hG := hA.ok
  unfold m_law_read
  refine @okB_cons _ _ _ _ _ _ _ ?_ ?_
  refine @ok_set _ _ _ hF _ _ _ _ _ _ _ at3 (by kernel_rfl) ?_ (by intro L a cd; kernel_rfl)
  refine @ok_list _ _ _ _ _ _ ?_
  exact @okL_nil _ _ _
  refine @okB_cons _ _ _ _ _ _ _ ?_ ?_
  refine @ok_for _ _ _ _ _ _ _ _ _ _ ?_ (step2_nx _ _) ?_ (fun _ _ _ _ => rfl)
  refine @okI_pairs _ _ _ hF _ _ _ _ _ _ _ _ _ _ _ _ at4 (by kernel_rfl) at5 (by kernel_rfl) ?_
  exact (@ok_var _ _ _ hF _ _ _ _ at0 (by kernel_rfl))
  refine @okB_cons _ _ _ _ _ _ _ ?_ ?_
  refine @ok_set _ _ _ hF _ _ _ _ _ _ _ at6 (by kernel_rfl) ?_ (by intro L a cd; kernel_rfl)
  refine @ok_call _ _ _ hF hG _ _ _ _ _ _ _ _ ?_ ((C_power hA).mono (by omega)) (by kernel_rfl) (by kernel_rfl) (hA.mg25) (fun _ => rfl)
  refine @okL_cons _ _ _ _ _ _ _ ?_ ?_ (fun _ => rfl)
  refine @ok_call _ _ _ hF hG _ _ _ _ _ _ _ _ ?_ ((C_law_limbs hA).mono (by omega)) (by kernel_rfl) (by kernel_rfl) (hA.mg36) (fun _ => rfl)
  refine @okL_cons _ _ _ _ _ _ _ ?_ ?_ (fun _ => rfl)
  exact (@ok_var _ _ _ hF _ _ _ _ at1 (by kernel_rfl))
  refine @okL_cons _ _ _ _ _ _ _ ?_ ?_ (fun _ => rfl)
  exact (@ok_var _ _ _ hF _ _ _ _ at2 (by kernel_rfl))
  exact @okL_nil _ _ _
  refine @okL_cons _ _ _ _ _ _ _ ?_ ?_ (fun _ => rfl)
  refine @ok_call _ _ _ hF hG _ _ _ _ _ _ _ _ ?_ ((C_law_worth hA).mono (by omega)) (by kernel_rfl) (by kernel_rfl) (hA.mg37) (fun _ => rfl)
  refine @okL_cons _ _ _ _ _ _ _ ?_ ?_ (fun _ => rfl)
  refine @ok_call _ _ _ hF hG _ _ _ _ _ _ _ _ ?_ (ih) (by kernel_rfl) (by kernel_rfl) (hA.mg39) (fun _ => rfl)
  refine @okL_cons _ _ _ _ _ _ _ ?_ ?_ (fun _ => rfl)
  exact (@ok_var _ _ _ hF _ _ _ _ at4 (by kernel_rfl))
  refine @okL_cons _ _ _ _ _ _ _ ?_ ?_ (fun _ => rfl)
  exact (@ok_var _ _ _ hF _ _ _ _ at1 (by kernel_rfl))
  refine @okL_cons _ _ _ _ _ _ _ ?_ ?_ (fun _ => rfl)
  exact (@ok_var _ _ _ hF _ _ _ _ at2 (by kernel_rfl))
  exact @okL_nil _ _ _
  refine @okL_cons _ _ _ _ _ _ _ ?_ ?_ (fun _ => rfl)
  exact (@ok_var _ _ _ hF _ _ _ _ at2 (by kernel_rfl))
  exact @okL_nil _ _ _
  refine @okL_cons _ _ _ _ _ _ _ ?_ ?_ (fun _ => rfl)
  exact (@ok_var _ _ _ hF _ _ _ _ at2 (by kernel_rfl))
  refine @okL_cons _ _ _ _ _ _ _ ?_ ?_ (fun _ => rfl)
  exact @ok_glob _ _ _ hF hG _ _ _ (by kernel_rfl) (by kernel_rfl) (hA.m0)
  exact @okL_nil _ _ _
  refine @okB_cons _ _ _ _ _ _ _ ?_ ?_
  refine @ok_set _ _ _ hF _ _ _ _ _ _ _ at3 (by kernel_rfl) ?_ (by intro L a cd; kernel_rfl)
  refine @ok_call _ _ _ hF hG _ _ _ _ _ _ _ _ ?_ ((C_add hA).mono (by omega)) (by kernel_rfl) (by kernel_rfl) (hA.mg7) (fun _ => rfl)
  refine @okL_cons _ _ _ _ _ _ _ ?_ ?_ (fun _ => rfl)
  exact (@ok_var _ _ _ hF _ _ _ _ at3 (by kernel_rfl))
  refine @okL_cons _ _ _ _ _ _ _ ?_ ?_ (fun _ => rfl)
  refine @ok_call _ _ _ hF hG _ _ _ _ _ _ _ _ ?_ ((C_mul_limb hA).mono (by omega)) (by kernel_rfl) (by kernel_rfl) (hA.mg10) (fun _ => rfl)
  refine @okL_cons _ _ _ _ _ _ _ ?_ ?_ (fun _ => rfl)
  exact (@ok_var _ _ _ hF _ _ _ _ at6 (by kernel_rfl))
  refine @okL_cons _ _ _ _ _ _ _ ?_ ?_ (fun _ => rfl)
  exact (@ok_var _ _ _ hF _ _ _ _ at5 (by kernel_rfl))
  refine @okL_cons _ _ _ _ _ _ _ ?_ ?_ (fun _ => rfl)
  exact (@ok_var _ _ _ hF _ _ _ _ at2 (by kernel_rfl))
  exact @okL_nil _ _ _
  refine @okL_cons _ _ _ _ _ _ _ ?_ ?_ (fun _ => rfl)
  exact (@ok_var _ _ _ hF _ _ _ _ at2 (by kernel_rfl))
  exact @okL_nil _ _ _
  exact @okB_nil _ _ _
  refine @okB_cons _ _ _ _ _ _ _ ?_ ?_
  refine @ok_ret _ _ _ _ _ _ ?_
  exact (@ok_var _ _ _ hF _ _ _ _ at3 (by kernel_rfl))
  exact @okB_nil _ _ _
theorem Cn_law_read {G : GE} (hA : GAll G) (n : Nat) : CallOk G (6 + n) (G.fa 41) (c_law_read n) := by
  induction n with
  | zero => exact (hA.at 39).none
  | succ n ih => exact callOk_of (n := (6 + n)) (F := F_law_read) (k := 3) hA.ok hF_law_read (hA.at 39) (s_law_read hA ih) (by decide) (fun pm cd doc vs e => by
    match vs, e with
    | [v0, v1, v2], _ => rfl) (by decide +kernel) (by kernel_rfl) (by kernel_rfl)
theorem C_law_read {G : GE} (hA : GAll G) : CallOk G 56 (G.fa 41) (c_law_read 50) := Cn_law_read hA 50
def F_law_raised : FC := { name := "_law_raised", scope := scopeOf (fdOf 40), names := ["number", "base", "found", "place"] }
theorem hF_law_raised : F_law_raised.Ok := ⟨by kernel_rfl, by decide +kernel, by decide +kernel⟩
theorem s_law_raised {G : GE} (hA : GAll G) {n : Nat} {c : CF} (ih : CallOk G (1 + n) (G.fa 42) c) : OkB G F_law_raised (1 + n) (bodyOf (fdOf 40)) (m_law_raised c) := by
  have hF := hF_law_raised
  have hG := hA.ok
  unfold m_law_raised
  refine @okB_cons _ _ _ _ _ _ _ ?_ ?_
  refine @ok_setTup _ _ _ hF _ _ _ _ _ _ _ _ _ (@Tg.cons _ _ _ _ _ _ _ at2 (by kernel_rfl) (@Tg.cons _ _ _ _ _ _ _ at3 (by kernel_rfl) (@Tg.nil _))) ?_ (Nat.le_of_ble_eq_true rfl) (by intro L a cd; kernel_rfl) (by intro L a cd; kernel_rfl)
  refine @okV_cons _ _ _ _ _ _ _ ?_ ?_ (fun _ => rfl)
  exact @ok_int _ _ _ _ _ _ _ (by rfl)
  refine @okV_cons _ _ _ _ _ _ _ ?_ ?_ (fun _ => rfl)
  exact @ok_int _ _ _ _ _ _ _ (by rfl)
  exact @okV_nil _ _ _
  refine @okB_cons _ _ _ _ _ _ _ ?_ ?_
  refine @ok_while _ _ _ _ _ _ _ _ ?_ ?_
  refine @ok_cmp _ _ _ _ _ _ _ _ _ _ ?_ ?_ (@c_gt _ _ _) (by rfl)
  exact (@ok_var _ _ _ hF _ _ _ _ at0 (by kernel_rfl))
  exact @ok_int _ _ _ _ _ _ _ (by rfl)
  refine @okB_cons _ _ _ _ _ _ _ ?_ ?_
  refine @ok_set _ _ _ hF _ _ _ _ _ _ _ at2 (by kernel_rfl) ?_ (by intro L a cd; kernel_rfl)
  refine @ok_bin _ _ _ _ _ _ _ _ _ _ ?_ ?_ (@op_add _ _ _)
  exact (@ok_var _ _ _ hF _ _ _ _ at2 (by kernel_rfl))
  refine @ok_bin _ _ _ _ _ _ _ _ _ _ ?_ ?_ (@op_mul _ _ _)
  refine @ok_bin _ _ _ _ _ _ _ _ _ _ ?_ ?_ (@op_mod _ _ _)
  exact (@ok_var _ _ _ hF _ _ _ _ at0 (by kernel_rfl))
  exact (@ok_var _ _ _ hF _ _ _ _ at1 (by kernel_rfl))
  refine @ok_bin _ _ _ _ _ _ _ _ _ _ ?_ ?_ (@op_pow _ _ _)
  refine @ok_bin _ _ _ _ _ _ _ _ _ _ ?_ ?_ (@op_add _ _ _)
  exact (@ok_var _ _ _ hF _ _ _ _ at1 (by kernel_rfl))
  exact @ok_int _ _ _ _ _ _ _ (by rfl)
  refine @ok_call _ _ _ hF hG _ _ _ _ _ _ _ _ ?_ (ih) (by kernel_rfl) (by kernel_rfl) (hA.mg40) (fun _ => rfl)
  refine @okL_cons _ _ _ _ _ _ _ ?_ ?_ (fun _ => rfl)
  exact (@ok_var _ _ _ hF _ _ _ _ at3 (by kernel_rfl))
  refine @okL_cons _ _ _ _ _ _ _ ?_ ?_ (fun _ => rfl)
  exact (@ok_var _ _ _ hF _ _ _ _ at1 (by kernel_rfl))
  exact @okL_nil _ _ _
  refine @okB_cons _ _ _ _ _ _ _ ?_ ?_
  refine @ok_setTupR _ _ _ hF _ _ _ ["number", "place"] _ _ _ _ _ _ (@TgN.cons _ _ _ _ _ _ at3 (by kernel_rfl) (@TgN.cons _ _ _ _ _ _ at0 (by kernel_rfl) (@TgN.nil _))) ?_ (Nat.le_of_ble_eq_true rfl) (by rfl) (by intro L a cd; kernel_rfl) (by intro L a cd; kernel_rfl)
  refine @okV_cons _ _ _ _ _ _ _ ?_ ?_ (fun _ => rfl)
  refine @ok_bin _ _ _ _ _ _ _ _ _ _ ?_ ?_ (@op_div _ _ _)
  exact (@ok_var _ _ _ hF _ _ _ _ at0 (by kernel_rfl))
  exact (@ok_var _ _ _ hF _ _ _ _ at1 (by kernel_rfl))
  refine @okV_cons _ _ _ _ _ _ _ ?_ ?_ (fun _ => rfl)
  refine @ok_bin _ _ _ _ _ _ _ _ _ _ ?_ ?_ (@op_add _ _ _)
  exact (@ok_var _ _ _ hF _ _ _ _ at3 (by kernel_rfl))
  exact @ok_int _ _ _ _ _ _ _ (by rfl)
  exact @okV_nil _ _ _
  exact @okB_nil _ _ _
  refine @okB_cons _ _ _ _ _ _ _ ?_ ?_
  refine @ok_ret _ _ _ _ _ _ ?_
  exact (@ok_var _ _ _ hF _ _ _ _ at2 (by kernel_rfl))
  exact @okB_nil _ _ _
theorem Cn_law_raised {G : GE} (hA : GAll G) (n : Nat) : CallOk G (1 + n) (G.fa 42) (c_law_raised n) := by
  induction n with
  | zero => exact (hA.at 40).none
  | succ n ih => exact callOk_of (n := (1 + n)) (F := F_law_raised) (k := 2) hA.ok hF_law_raised (hA.at 40) (s_law_raised hA ih) (by decide) (fun pm cd doc vs e => by
    match vs, e with
    | [v0, v1], _ => rfl) (by decide +kernel) (by kernel_rfl) (by kernel_rfl)
theorem C_law_raised {G : GE} (hA : GAll G) : CallOk G 51 (G.fa 42) (c_law_raised 50) := Cn_law_raised hA 50
def F_law_walk : FC := { name := "_law_walk", scope := scopeOf (fdOf 41), names := ["start", "steps", "w", "number", "rows", "base", "row", "later"] }
theorem hF_law_walk : F_law_walk.Ok := ⟨by kernel_rfl, by decide +kernel, by decide +kernel⟩
theorem s_law_walk {G : GE} (hA : GAll G) : OkB G F_law_walk 108 (bodyOf (fdOf 41)) m_law_walk := by
  have hF := hF_law_walk
  have hG := hA.ok
  unfold m_law_walk
  refine @okB_cons _ _ _ _ _ _ _ ?_ ?_
  refine @ok_setTupR _ _ _ hF _ _ _ ["number", "rows"] _ _ _ _ _ _ (@TgN.cons _ _ _ _ _ _ at4 (by kernel_rfl) (@TgN.cons _ _ _ _ _ _ at3 (by kernel_rfl) (@TgN.nil _))) ?_ (Nat.le_of_ble_eq_true rfl) (by rfl) (by intro L a cd; kernel_rfl) (by intro L a cd; kernel_rfl)
  refine @okV_cons _ _ _ _ _ _ _ ?_ ?_ (fun _ => rfl)
  exact (@ok_var _ _ _ hF _ _ _ _ at0 (by kernel_rfl))
  refine @okV_cons _ _ _ _ _ _ _ ?_ ?_ (fun _ => rfl)
  refine @ok_list _ _ _ _ _ _ ?_
  refine @okL_cons _ _ _ _ _ _ _ ?_ ?_ (fun _ => rfl)
  exact (@ok_var _ _ _ hF _ _ _ _ at0 (by kernel_rfl))
  exact @okL_nil _ _ _
  exact @okV_nil _ _ _
  refine @okB_cons _ _ _ _ _ _ _ ?_ ?_
  refine @ok_for _ _ _ _ _ _ _ _ _ _ ?_ (step1_nx _) ?_ (fun _ _ _ _ => rfl)
  refine @okI_range2 _ _ _ hF hG _ _ _ _ _ _ _ _ _ _ at5 (by kernel_rfl) ?_ ?_ (by kernel_rfl) (fun _ => rfl) (fun _ => rfl)
  exact @ok_int _ _ _ _ _ _ _ (by rfl)
  refine @ok_bin _ _ _ _ _ _ _ _ _ _ ?_ ?_ (@op_add _ _ _)
  exact @ok_int _ _ _ _ _ _ _ (by rfl)
  exact (@ok_var _ _ _ hF _ _ _ _ at1 (by kernel_rfl))
  refine @okB_cons _ _ _ _ _ _ _ ?_ ?_
  refine @ok_ifs _ _ _ _ _ _ _ _ _ _ ?_ ?_ ?_
  refine @ok_cmp _ _ _ _ _ _ _ _ _ _ ?_ ?_ (@c_eq _ _ _) (by rfl)
  exact (@ok_var _ _ _ hF _ _ _ _ at3 (by kernel_rfl))
  exact @ok_int _ _ _ _ _ _ _ (by rfl)
  refine @okB_cons _ _ _ _ _ _ _ ?_ ?_
  exact @ok_brk _ _ _ _
  exact @okB_nil _ _ _
  exact @okB_nil _ _ _
  refine @okB_cons _ _ _ _ _ _ _ ?_ ?_
  refine @ok_set _ _ _ hF _ _ _ _ _ _ _ at6 (by kernel_rfl) ?_ (by intro L a cd; kernel_rfl)
  refine @ok_call _ _ _ hF hG _ _ _ _ _ _ _ _ ?_ ((C_law_written hA).mono (by omega)) (by kernel_rfl) (by kernel_rfl) (hA.mg38) (fun _ => rfl)
  refine @okL_cons _ _ _ _ _ _ _ ?_ ?_ (fun _ => rfl)
  refine @ok_call _ _ _ hF hG _ _ _ _ _ _ _ _ ?_ ((C_law_limbs hA).mono (by omega)) (by kernel_rfl) (by kernel_rfl) (hA.mg36) (fun _ => rfl)
  refine @okL_cons _ _ _ _ _ _ _ ?_ ?_ (fun _ => rfl)
  exact (@ok_var _ _ _ hF _ _ _ _ at3 (by kernel_rfl))
  refine @okL_cons _ _ _ _ _ _ _ ?_ ?_ (fun _ => rfl)
  exact (@ok_var _ _ _ hF _ _ _ _ at2 (by kernel_rfl))
  exact @okL_nil _ _ _
  refine @okL_cons _ _ _ _ _ _ _ ?_ ?_ (fun _ => rfl)
  exact (@ok_var _ _ _ hF _ _ _ _ at5 (by kernel_rfl))
  refine @okL_cons _ _ _ _ _ _ _ ?_ ?_ (fun _ => rfl)
  exact (@ok_var _ _ _ hF _ _ _ _ at2 (by kernel_rfl))
  exact @okL_nil _ _ _
  refine @okB_cons _ _ _ _ _ _ _ ?_ ?_
  refine @ok_ifs _ _ _ _ _ _ _ _ _ _ ?_ ?_ ?_
  refine @ok_cmp _ _ _ _ _ _ _ _ _ _ ?_ ?_ (@c_ne _ _ _) (by rfl)
  refine @ok_call _ _ _ hF hG _ _ _ _ _ _ _ _ ?_ ((C_law_read hA).mono (by omega)) (by kernel_rfl) (by kernel_rfl) (hA.mg39) (fun _ => rfl)
  refine @okL_cons _ _ _ _ _ _ _ ?_ ?_ (fun _ => rfl)
  exact (@ok_var _ _ _ hF _ _ _ _ at6 (by kernel_rfl))
  refine @okL_cons _ _ _ _ _ _ _ ?_ ?_ (fun _ => rfl)
  exact (@ok_var _ _ _ hF _ _ _ _ at5 (by kernel_rfl))
  refine @okL_cons _ _ _ _ _ _ _ ?_ ?_ (fun _ => rfl)
  exact (@ok_var _ _ _ hF _ _ _ _ at2 (by kernel_rfl))
  exact @okL_nil _ _ _
  refine @ok_call _ _ _ hF hG _ _ _ _ _ _ _ _ ?_ ((C_law_limbs hA).mono (by omega)) (by kernel_rfl) (by kernel_rfl) (hA.mg36) (fun _ => rfl)
  refine @okL_cons _ _ _ _ _ _ _ ?_ ?_ (fun _ => rfl)
  exact (@ok_var _ _ _ hF _ _ _ _ at3 (by kernel_rfl))
  refine @okL_cons _ _ _ _ _ _ _ ?_ ?_ (fun _ => rfl)
  exact (@ok_var _ _ _ hF _ _ _ _ at2 (by kernel_rfl))
  exact @okL_nil _ _ _
  refine @okB_cons _ _ _ _ _ _ _ ?_ ?_
  refine @ok_ret _ _ _ _ _ _ ?_
  exact @ok_none _ _ _ _ _
  exact @okB_nil _ _ _
  exact @okB_nil _ _ _
  refine @okB_cons _ _ _ _ _ _ _ ?_ ?_
  refine @ok_set _ _ _ hF _ _ _ _ _ _ _ at7 (by kernel_rfl) ?_ (by intro L a cd; kernel_rfl)
  refine @ok_call _ _ _ hF hG _ _ _ _ _ _ _ _ ?_ ((C_sub_limb hA).mono (by omega)) (by kernel_rfl) (by kernel_rfl) (hA.mg9) (fun _ => rfl)
  refine @okL_cons _ _ _ _ _ _ _ ?_ ?_ (fun _ => rfl)
  refine @ok_call _ _ _ hF hG _ _ _ _ _ _ _ _ ?_ ((C_law_read hA).mono (by omega)) (by kernel_rfl) (by kernel_rfl) (hA.mg39) (fun _ => rfl)
  refine @okL_cons _ _ _ _ _ _ _ ?_ ?_ (fun _ => rfl)
  exact (@ok_var _ _ _ hF _ _ _ _ at6 (by kernel_rfl))
  refine @okL_cons _ _ _ _ _ _ _ ?_ ?_ (fun _ => rfl)
  refine @ok_bin _ _ _ _ _ _ _ _ _ _ ?_ ?_ (@op_add _ _ _)
  exact (@ok_var _ _ _ hF _ _ _ _ at5 (by kernel_rfl))
  exact @ok_int _ _ _ _ _ _ _ (by rfl)
  refine @okL_cons _ _ _ _ _ _ _ ?_ ?_ (fun _ => rfl)
  exact (@ok_var _ _ _ hF _ _ _ _ at2 (by kernel_rfl))
  exact @okL_nil _ _ _
  refine @okL_cons _ _ _ _ _ _ _ ?_ ?_ (fun _ => rfl)
  exact @ok_int _ _ _ _ _ _ _ (by rfl)
  refine @okL_cons _ _ _ _ _ _ _ ?_ ?_ (fun _ => rfl)
  exact (@ok_var _ _ _ hF _ _ _ _ at2 (by kernel_rfl))
  exact @okL_nil _ _ _
  refine @okB_cons _ _ _ _ _ _ _ ?_ ?_
  refine @ok_ifs _ _ _ _ _ _ _ _ _ _ ?_ ?_ ?_
  refine @ok_cmp _ _ _ _ _ _ _ _ _ _ ?_ ?_ (@c_ne _ _ _) (by rfl)
  refine @ok_call _ _ _ hF hG _ _ _ _ _ _ _ _ ?_ ((C_law_worth hA).mono (by omega)) (by kernel_rfl) (by kernel_rfl) (hA.mg37) (fun _ => rfl)
  refine @okL_cons _ _ _ _ _ _ _ ?_ ?_ (fun _ => rfl)
  exact (@ok_var _ _ _ hF _ _ _ _ at7 (by kernel_rfl))
  refine @okL_cons _ _ _ _ _ _ _ ?_ ?_ (fun _ => rfl)
  exact (@ok_var _ _ _ hF _ _ _ _ at2 (by kernel_rfl))
  exact @okL_nil _ _ _
  refine @ok_bin _ _ _ _ _ _ _ _ _ _ ?_ ?_ (@op_sub _ _ _)
  refine @ok_call _ _ _ hF hG _ _ _ _ _ _ _ _ ?_ ((C_law_raised hA).mono (by omega)) (by kernel_rfl) (by kernel_rfl) (hA.mg40) (fun _ => rfl)
  refine @okL_cons _ _ _ _ _ _ _ ?_ ?_ (fun _ => rfl)
  exact (@ok_var _ _ _ hF _ _ _ _ at3 (by kernel_rfl))
  refine @okL_cons _ _ _ _ _ _ _ ?_ ?_ (fun _ => rfl)
  exact (@ok_var _ _ _ hF _ _ _ _ at5 (by kernel_rfl))
  exact @okL_nil _ _ _
  exact @ok_int _ _ _ _ _ _ _ (by rfl)
  refine @okB_cons _ _ _ _ _ _ _ ?_ ?_
  refine @ok_ret _ _ _ _ _ _ ?_
  exact @ok_none _ _ _ _ _
  exact @okB_nil _ _ _
  exact @okB_nil _ _ _
  refine @okB_cons _ _ _ _ _ _ _ ?_ ?_
  refine @ok_ifs _ _ _ _ _ _ _ _ _ _ ?_ ?_ ?_
  refine @ok_not _ _ _ _ _ _ ?_
  refine @ok_cmp _ _ _ _ _ _ _ _ _ _ ?_ ?_ (@c_lt _ _ _) (by rfl)
  refine @ok_call _ _ _ hF hG _ _ _ _ _ _ _ _ ?_ ((C_law_written hA).mono (by omega)) (by kernel_rfl) (by kernel_rfl) (hA.mg38) (fun _ => rfl)
  refine @okL_cons _ _ _ _ _ _ _ ?_ ?_ (fun _ => rfl)
  exact (@ok_var _ _ _ hF _ _ _ _ at7 (by kernel_rfl))
  refine @okL_cons _ _ _ _ _ _ _ ?_ ?_ (fun _ => rfl)
  refine @ok_bin _ _ _ _ _ _ _ _ _ _ ?_ ?_ (@op_add _ _ _)
  exact (@ok_var _ _ _ hF _ _ _ _ at5 (by kernel_rfl))
  exact @ok_int _ _ _ _ _ _ _ (by rfl)
  refine @okL_cons _ _ _ _ _ _ _ ?_ ?_ (fun _ => rfl)
  exact (@ok_var _ _ _ hF _ _ _ _ at2 (by kernel_rfl))
  exact @okL_nil _ _ _
  exact (@ok_var _ _ _ hF _ _ _ _ at6 (by kernel_rfl))
  refine @okB_cons _ _ _ _ _ _ _ ?_ ?_
  refine @ok_ret _ _ _ _ _ _ ?_
  exact @ok_none _ _ _ _ _
  exact @okB_nil _ _ _
  exact @okB_nil _ _ _
  refine @okB_cons _ _ _ _ _ _ _ ?_ ?_
  refine @ok_set _ _ _ hF _ _ _ _ _ _ _ at3 (by kernel_rfl) ?_ (by intro L a cd; kernel_rfl)
  refine @ok_call _ _ _ hF hG _ _ _ _ _ _ _ _ ?_ ((C_law_worth hA).mono (by omega)) (by kernel_rfl) (by kernel_rfl) (hA.mg37) (fun _ => rfl)
  refine @okL_cons _ _ _ _ _ _ _ ?_ ?_ (fun _ => rfl)
  exact (@ok_var _ _ _ hF _ _ _ _ at7 (by kernel_rfl))
  refine @okL_cons _ _ _ _ _ _ _ ?_ ?_ (fun _ => rfl)
  exact (@ok_var _ _ _ hF _ _ _ _ at2 (by kernel_rfl))
  exact @okL_nil _ _ _
  refine @okB_cons _ _ _ _ _ _ _ ?_ ?_
  refine @ok_app _ _ _ hF _ _ _ _ _ _ _ _ _ at4 (by kernel_rfl) ?_ (fun _ => rfl) (fun _ => rfl) (by intro L a cd; kernel_rfl) (by intro L a cd; kernel_rfl)
  exact (@ok_var _ _ _ hF _ _ _ _ at3 (by kernel_rfl))
  exact @okB_nil _ _ _
  refine @okB_cons _ _ _ _ _ _ _ ?_ ?_
  refine @ok_ret _ _ _ _ _ _ ?_
  exact (@ok_var _ _ _ hF _ _ _ _ at4 (by kernel_rfl))
  exact @okB_nil _ _ _
theorem C_law_walk {G : GE} (hA : GAll G) : CallOk G 109 (G.fa 43) c_law_walk :=
  callOk_of (n := 108) (F := F_law_walk) (k := 3) hA.ok hF_law_walk (hA.at 41) (s_law_walk hA) (by decide) (fun pm cd doc vs e => by
    match vs, e with
    | [v0, v1, v2], _ => rfl) (by decide +kernel) (by kernel_rfl) (by kernel_rfl)
end Goo
end
-- GLaw
section
set_option maxRecDepth 100000
namespace Goo
noncomputable section
def incr (ds : List D) : Bool := List.rec (motive := fun _ => Bool) true (fun x r ih => List.casesOn (motive := fun _ => Bool) r true fun y _ => x.onI false fun a => y.onI false fun b => onB (zlt a b) ih false) ds
def chkW (s : Nat) (r : RO D) : Bool := r.el false fun d => d.onL false fun ds => onB (allI ds) (onB (Nat.ble (len ds) 6) (onB (Nat.ble s 3) true (incr ds)) false) false
def wk (w s k : Nat) : RO D := c_law_walk [.int (.ofNat s), .int (.ofNat k), .int (.ofNat w)]
def chk (w s : Nat) : Bool := onB (chkW s (wk w s 1)) (onB (chkW s (wk w s 2)) (onB (chkW s (wk w s 3)) (onB (chkW s (wk w s 4)) (chkW s (wk w s 5)) false) false) false) false
def want : List Int := [3, 3, 3, 2, 1, 0]
def chk3 (w : Nat) : Bool := (wk w 3 9).el false fun d => d.onL false fun ds => eqI ds (want.map .int)
end
theorem k_4_1 : chk 4 1 = true := by decide +kernel
theorem k_4_2 : chk 4 2 = true := by decide +kernel
theorem k_4_3 : chk 4 3 = true := by decide +kernel
theorem k_4_4 : chk 4 4 = true := by decide +kernel
theorem k_4_5 : chk 4 5 = true := by decide +kernel
theorem k_4_6 : chk 4 6 = true := by decide +kernel
theorem k_4_7 : chk 4 7 = true := by decide +kernel
theorem k_4_8 : chk 4 8 = true := by decide +kernel
theorem k_4_9 : chk 4 9 = true := by decide +kernel
theorem k_4_10 : chk 4 10 = true := by decide +kernel
theorem k_4_11 : chk 4 11 = true := by decide +kernel
theorem k_4_12 : chk 4 12 = true := by decide +kernel
theorem k_4_13 : chk 4 13 = true := by decide +kernel
theorem k_4_14 : chk 4 14 = true := by decide +kernel
theorem k_4_15 : chk 4 15 = true := by decide +kernel
theorem k3_4 : chk3 4 = true := by decide +kernel
theorem k_5_1 : chk 5 1 = true := by decide +kernel
theorem k_5_2 : chk 5 2 = true := by decide +kernel
theorem k_5_3 : chk 5 3 = true := by decide +kernel
theorem k_5_4 : chk 5 4 = true := by decide +kernel
theorem k_5_5 : chk 5 5 = true := by decide +kernel
theorem k_5_6 : chk 5 6 = true := by decide +kernel
theorem k_5_7 : chk 5 7 = true := by decide +kernel
theorem k_5_8 : chk 5 8 = true := by decide +kernel
theorem k_5_9 : chk 5 9 = true := by decide +kernel
theorem k_5_10 : chk 5 10 = true := by decide +kernel
theorem k_5_11 : chk 5 11 = true := by decide +kernel
theorem k_5_12 : chk 5 12 = true := by decide +kernel
theorem k_5_13 : chk 5 13 = true := by decide +kernel
theorem k_5_14 : chk 5 14 = true := by decide +kernel
theorem k_5_15 : chk 5 15 = true := by decide +kernel
theorem k3_5 : chk3 5 = true := by decide +kernel
theorem k_6_1 : chk 6 1 = true := by decide +kernel
theorem k_6_2 : chk 6 2 = true := by decide +kernel
theorem k_6_3 : chk 6 3 = true := by decide +kernel
theorem k_6_4 : chk 6 4 = true := by decide +kernel
theorem k_6_5 : chk 6 5 = true := by decide +kernel
theorem k_6_6 : chk 6 6 = true := by decide +kernel
theorem k_6_7 : chk 6 7 = true := by decide +kernel
theorem k_6_8 : chk 6 8 = true := by decide +kernel
theorem k_6_9 : chk 6 9 = true := by decide +kernel
theorem k_6_10 : chk 6 10 = true := by decide +kernel
theorem k_6_11 : chk 6 11 = true := by decide +kernel
theorem k_6_12 : chk 6 12 = true := by decide +kernel
theorem k_6_13 : chk 6 13 = true := by decide +kernel
theorem k_6_14 : chk 6 14 = true := by decide +kernel
theorem k_6_15 : chk 6 15 = true := by decide +kernel
theorem k3_6 : chk3 6 = true := by decide +kernel
theorem k_7_1 : chk 7 1 = true := by decide +kernel
theorem k_7_2 : chk 7 2 = true := by decide +kernel
theorem k_7_3 : chk 7 3 = true := by decide +kernel
theorem k_7_4 : chk 7 4 = true := by decide +kernel
theorem k_7_5 : chk 7 5 = true := by decide +kernel
theorem k_7_6 : chk 7 6 = true := by decide +kernel
theorem k_7_7 : chk 7 7 = true := by decide +kernel
theorem k_7_8 : chk 7 8 = true := by decide +kernel
theorem k_7_9 : chk 7 9 = true := by decide +kernel
theorem k_7_10 : chk 7 10 = true := by decide +kernel
theorem k_7_11 : chk 7 11 = true := by decide +kernel
theorem k_7_12 : chk 7 12 = true := by decide +kernel
theorem k_7_13 : chk 7 13 = true := by decide +kernel
theorem k_7_14 : chk 7 14 = true := by decide +kernel
theorem k_7_15 : chk 7 15 = true := by decide +kernel
theorem k3_7 : chk3 7 = true := by decide +kernel
theorem k_8_1 : chk 8 1 = true := by decide +kernel
theorem k_8_2 : chk 8 2 = true := by decide +kernel
theorem k_8_3 : chk 8 3 = true := by decide +kernel
theorem k_8_4 : chk 8 4 = true := by decide +kernel
theorem k_8_5 : chk 8 5 = true := by decide +kernel
theorem k_8_6 : chk 8 6 = true := by decide +kernel
theorem k_8_7 : chk 8 7 = true := by decide +kernel
theorem k_8_8 : chk 8 8 = true := by decide +kernel
theorem k_8_9 : chk 8 9 = true := by decide +kernel
theorem k_8_10 : chk 8 10 = true := by decide +kernel
theorem k_8_11 : chk 8 11 = true := by decide +kernel
theorem k_8_12 : chk 8 12 = true := by decide +kernel
theorem k_8_13 : chk 8 13 = true := by decide +kernel
theorem k_8_14 : chk 8 14 = true := by decide +kernel
theorem k_8_15 : chk 8 15 = true := by decide +kernel
theorem k3_8 : chk3 8 = true := by decide +kernel
theorem k_all : ∀ w, 4 ≤ w → w ≤ 8 → ∀ s, 1 ≤ s → s ≤ 15 → chk w s = true := by
  intro w h1 h2 s h3 h4
  match w, s with
  | 4, 1 => exact k_4_1
  | 4, 2 => exact k_4_2
  | 4, 3 => exact k_4_3
  | 4, 4 => exact k_4_4
  | 4, 5 => exact k_4_5
  | 4, 6 => exact k_4_6
  | 4, 7 => exact k_4_7
  | 4, 8 => exact k_4_8
  | 4, 9 => exact k_4_9
  | 4, 10 => exact k_4_10
  | 4, 11 => exact k_4_11
  | 4, 12 => exact k_4_12
  | 4, 13 => exact k_4_13
  | 4, 14 => exact k_4_14
  | 4, 15 => exact k_4_15
  | 5, 1 => exact k_5_1
  | 5, 2 => exact k_5_2
  | 5, 3 => exact k_5_3
  | 5, 4 => exact k_5_4
  | 5, 5 => exact k_5_5
  | 5, 6 => exact k_5_6
  | 5, 7 => exact k_5_7
  | 5, 8 => exact k_5_8
  | 5, 9 => exact k_5_9
  | 5, 10 => exact k_5_10
  | 5, 11 => exact k_5_11
  | 5, 12 => exact k_5_12
  | 5, 13 => exact k_5_13
  | 5, 14 => exact k_5_14
  | 5, 15 => exact k_5_15
  | 6, 1 => exact k_6_1
  | 6, 2 => exact k_6_2
  | 6, 3 => exact k_6_3
  | 6, 4 => exact k_6_4
  | 6, 5 => exact k_6_5
  | 6, 6 => exact k_6_6
  | 6, 7 => exact k_6_7
  | 6, 8 => exact k_6_8
  | 6, 9 => exact k_6_9
  | 6, 10 => exact k_6_10
  | 6, 11 => exact k_6_11
  | 6, 12 => exact k_6_12
  | 6, 13 => exact k_6_13
  | 6, 14 => exact k_6_14
  | 6, 15 => exact k_6_15
  | 7, 1 => exact k_7_1
  | 7, 2 => exact k_7_2
  | 7, 3 => exact k_7_3
  | 7, 4 => exact k_7_4
  | 7, 5 => exact k_7_5
  | 7, 6 => exact k_7_6
  | 7, 7 => exact k_7_7
  | 7, 8 => exact k_7_8
  | 7, 9 => exact k_7_9
  | 7, 10 => exact k_7_10
  | 7, 11 => exact k_7_11
  | 7, 12 => exact k_7_12
  | 7, 13 => exact k_7_13
  | 7, 14 => exact k_7_14
  | 7, 15 => exact k_7_15
  | 8, 1 => exact k_8_1
  | 8, 2 => exact k_8_2
  | 8, 3 => exact k_8_3
  | 8, 4 => exact k_8_4
  | 8, 5 => exact k_8_5
  | 8, 6 => exact k_8_6
  | 8, 7 => exact k_8_7
  | 8, 8 => exact k_8_8
  | 8, 9 => exact k_8_9
  | 8, 10 => exact k_8_10
  | 8, 11 => exact k_8_11
  | 8, 12 => exact k_8_12
  | 8, 13 => exact k_8_13
  | 8, 14 => exact k_8_14
  | 8, 15 => exact k_8_15
  | 0, _ | 1, _ | 2, _ | 3, _ => omega
  | _ + 9, _ => omega
  | _, 0 => omega
  | _, _ + 16 => omega
theorem k3_all : ∀ w, 4 ≤ w → w ≤ 8 → chk3 w = true := by
  intro w h1 h2
  match w with
  | 4 => exact k3_4
  | 5 => exact k3_5
  | 6 => exact k3_6
  | 7 => exact k3_7
  | 8 => exact k3_8
  | 0 | 1 | 2 | 3 => omega
  | _ + 9 => omega
theorem allI_map : ∀ {ds : List D}, allI ds = true → ∃ ns : List Int, ds = ns.map .int
  | [], _ => ⟨[], rfl⟩
  | d :: r, h => by
    have h' : (d.onI false fun _ => allI r) = true := h
    obtain ⟨i, rfl, h2⟩ := D.onI_inv h' nofun
    obtain ⟨ns, rfl⟩ := allI_map h2
    exact ⟨i :: ns, rfl⟩
def Incr (ns : List Int) : Prop := ∀ i, i + 1 < ns.length → ns.getD i 0 < ns.getD (i + 1) 0
theorem incr_of : ∀ {ns : List Int}, incr (ns.map .int) = true → Incr ns
  | [], _ => fun i h => absurd h (Nat.not_lt_zero _)
  | [a], _ => fun i h => by simp at h
  | a :: b :: r, h => by
    have h' : onB (zlt a b) (incr ((b :: r).map .int)) false = true := h
    obtain ⟨h1, h2⟩ := onB_inv h' nofun
    rw [zlt_eq] at h1
    have ih := incr_of h2
    intro i hi
    cases i with
    | zero => simpa using h1
    | succ i => exact ih i (by simpa using hi)
theorem chkW_of {s : Nat} {r : RO D} (h : chkW s r = true) : ∃ ns : List Int, r = .ok (.list (ns.map .int)) ∧ ns.length ≤ 6 ∧ (3 < s → Incr ns) := by
  unfold chkW at h
  obtain ⟨d, rfl, h1⟩ := RO.inv h nofun
  obtain ⟨ds, rfl, h2⟩ := D.onL_inv h1 nofun
  obtain ⟨h3, h4⟩ := onB_inv h2 nofun
  obtain ⟨ns, rfl⟩ := allI_map h3
  obtain ⟨h5, h6⟩ := onB_inv h4 nofun
  have h5 := ble_iff.mp h5
  rw [len_eq, List.length_map] at h5
  refine ⟨ns, rfl, h5, fun hs => ?_⟩
  have e : Nat.ble s 3 = false := by
    cases q : Nat.ble s 3 with
    | false => rfl
    | true => have := ble_iff.mp q; omega
  rw [e] at h6
  exact incr_of h6
theorem eqI_of : ∀ {ds : List D} {ns : List Int}, eqI ds (ns.map .int) = true → ds = ns.map .int
  | [], [], _ => rfl
  | [], _ :: _, h => by cases h
  | d :: r, [], h => by cases h
  | d :: r, n :: t, h => by
    have h' : (d.onI false fun x => onB (zeq x n) (eqI r (t.map .int)) false) = true := h
    obtain ⟨i, rfl, h2⟩ := D.onI_inv h' nofun
    obtain ⟨h3, h4⟩ := onB_inv h2 nofun
    rw [zeq_eq] at h3
    have e : i = n := by simpa using h3
    rw [e, eqI_of h4]
    rfl
theorem walk_ok {i j k : Int} (hi : 1 ≤ i) (hi' : i ≤ 15) (hj : 1 ≤ j) (hj' : j ≤ 5) (hk : 4 ≤ k) (hk' : k ≤ 8) :
    ∃ ns : List Int, c_law_walk [.int i, .int j, .int k] = .ok (.list (ns.map .int)) ∧ ns.length ≤ 6 ∧ (3 < i → Incr ns) := by
  obtain ⟨s, rfl⟩ : ∃ s : Nat, i = s := ⟨i.toNat, by omega⟩
  obtain ⟨n, rfl⟩ : ∃ n : Nat, j = n := ⟨j.toNat, by omega⟩
  obtain ⟨w, rfl⟩ : ∃ w : Nat, k = w := ⟨k.toNat, by omega⟩
  have h := k_all w (by omega) (by omega) s (by omega) (by omega)
  unfold chk at h
  obtain ⟨h1, h⟩ := onB_inv h nofun
  obtain ⟨h2, h⟩ := onB_inv h nofun
  obtain ⟨h3, h⟩ := onB_inv h nofun
  obtain ⟨h4, h5⟩ := onB_inv h nofun
  have all : chkW s (wk w s n) = true := by
    match n with
    | 1 => exact h1
    | 2 => exact h2
    | 3 => exact h3
    | 4 => exact h4
    | 5 => exact h5
    | 0 => omega
    | _ + 6 => omega
  obtain ⟨ns, e1, e2, e3⟩ := chkW_of all
  exact ⟨ns, e1, e2, fun q => e3 (by omega)⟩
theorem walk3_ok {k : Int} (hk : 4 ≤ k) (hk' : k ≤ 8) : c_law_walk [.int 3, .int 9, .int k] = .ok (.list (want.map .int)) := by
  obtain ⟨w, rfl⟩ : ∃ w : Nat, k = w := ⟨k.toNat, by omega⟩
  have h := k3_all w (by omega) (by omega)
  unfold chk3 at h
  obtain ⟨d, e, h1⟩ := RO.inv h nofun
  obtain ⟨ds, rfl, h2⟩ := D.onL_inv h1 nofun
  rw [eqI_of h2] at e
  exact e
end Goo
end
-- GCon
section
open PySem PyProof.Rows
set_option maxRecDepth 100000
namespace Goo
def posOf : Stmt → Pos
  | .FunctionDef _ _ _ _ _ _ _ _ _ p => p
  | _ => ⟨0, 0, 0, 0⟩
def recOf (i : Nat) : DefRec := ⟨nameOf (fdOf i), paramsOf (fdOf i), bodyOf (fdOf i), scopeOf (fdOf i), posOf (fdOf i)⟩
def allIx : List Nat := [4, 5, 6, 7, 8, 9, 10, 11, 12, 13, 14, 16, 17, 18, 19, 20, 21, 22, 23, 25, 27, 28, 29, 30, 31, 32, 33, 35, 36, 37, 38, 39, 40, 41, 42]
def adr (mg : Str → Option Value) (i : Nat) : Addr := match mg (nameOf (fdOf i)) with
  | some (.ref a) => a
  | _ => 0
def ixOf : Nat → Nat
  | 0 => 27
  | 1 => 33
  | k + 2 => k
def GEof (prog : Program) (w : World) (mg mb : Str → Option Value) (h : Heap) : GE := ⟨prog, w, mg, mb, fun k => adr mg (ixOf k), h⟩
theorem gall {prog p : Program} {w : World} {loose : List Str} {mean : ExcName → Option Value} {mg mb : Str → Option Value} {h : Heap} (T : Top p loose mean mg mb h) (hr : recsOf p = allIx.map recOf)
    (hf : ∀ x ∈ biNames, x.1 ∉ startupNames ∧ x.1 ∉ loose ∧ x.1 ∉ (recsOf p).map (·.name) ∧ x.1 ∉ (litsOf p).map (·.1) ∧ x.1 ∉ (clssOf p loose).map (·.name)) (hb : ∀ x ∈ biNames, x.1 ≠ "__name__" ∧ bootBuiltins x.1 = some x.2) :
    GAll (GEof prog w mg mb h) where
  ok := ⟨T.g, T.b, T.nolimit, fun x hx => by
    obtain ⟨a, b, c, d, e⟩ := hf x hx
    exact ⟨T.free _ a b c d e, (T.builtins _ (hb x hx).1).trans (hb x hx).2⟩⟩
  all := fun i hi => by
    have hm : recOf i ∈ recsOf p := by
      rw [hr]
      have : ∀ i ∈ ixs, i ∈ allIx := by decide
      exact List.mem_map_of_mem (this i hi)
    obtain ⟨a, o, pm, cd, doc, h1, h2, h3, h4⟩ := T.fn _ hm
    have e : adr mg i = a := by
      unfold adr
      rw [show mg (nameOf (fdOf i)) = some (.ref a) from h1]
    refine ⟨⟨o, pm, cd, doc, ?_, h3, h4⟩, ?_⟩
    · show h.get? (adr mg i) = _
      rw [e]; exact h2
    · show mg _ = some (.ref (adr mg i))
      rw [e]; exact h1
  f0 := rfl
  f1 := rfl
theorem ints_of {fa : Nat → Addr} {K : KM} : ∀ {ns : List Int} {vs : List Value}, DL fa K (ns.map .int) vs → IntsAre vs ns
  | [], _, h => by cases h; exact .nil
  | n :: r, _, h => by
    cases h with
    | cons p q => cases p with | int _ t => exact .cons n t (ints_of q)
theorem off1_of {D : Addr} : ∀ {l : List (Addr × Obj)}, (∀ q ∈ l, q.1 ≠ D) → LCg.Off1 D l
  | [], _ => trivial
  | p :: r, h => ⟨h p (.head _), off1_of fun q hq => h q (.tail _ hq)⟩
/-- what a call of _law_walk comes to -/
theorem walk_call {prog : Program} {w : World} {mg mb : Str → Option Value} {h₀ : Heap} {L : Addr} {m : Str → Option Value} {news : List (Addr × Obj)} {A : Around} {s : Shared} {f : Addr}
    {i j k : Int} {t1 t2 t3 : Tok} {ns : List Int} {Q E : Value → Shared → Prop} (hA : GAll (GEof prog w mg mb h₀)) (hm : mg "_law_walk" = some (.ref f)) (hr : Room 109 A) (F : Fr h₀ L s.heap m) (N : News h₀ L s.heap news)
    (hc : c_law_walk [.int i, .int j, .int k] = .ok (.list (ns.map .int)))
    (h : ∀ a vs n h' tk', IntsAre vs ns → Fr h₀ L h' m → News h₀ L h' ((a, W.listOf vs.toArray n) :: news) → LCg.Off1 a news → Q (.ref a) { s with heap := h', toks := tk' }) :
    wpAny (model prog w) A (call (.ref f) [.int i t1, .int j t2, .int k t3]) Q E s := by
  have e1 := hA.mg41
  have e2 : GE.mg (GEof prog w mg mb h₀) "_law_walk" = some (.ref f) := hm
  rw [e1] at e2
  injection e2 with e2
  injection e2 with e2
  have C := C_law_walk hA
  rw [e2] at C
  obtain ⟨oL, _, _, hoL, _⟩ := id F.ns
  refine wpAny_mono (C.run (K := fun _ => none) (P := s.heap.get?) hr ⟨fun b o e => .inr (F.keep b o e), fun _ _ e => (by cases e), fun _ _ e => e, fun _ _ e => (by cases e)⟩ (.cons (.int _ _) (.cons (.int _ _) (.cons (.int _ _) .nil))) hc) (fun v s' ⟨K', _, hp, hd, hs⟩ => ?_) fun _ _ x => x.elim
  obtain ⟨h', tk', rfl⟩ := hs
  cases hd with
  | @list a vs n _ ha hl hds =>
    have ha' : h'.get? a = some (lobj vs n) := hp.keepK _ _ ha
    have hn : s.heap.get? a = none := hp.disj _ _ ha
    have hge : ∀ b o, s.heap.get? b = some o → b ≠ a := fun b o e q => by subst q; rw [hn] at e; cases e
    have keep : ∀ b o, s.heap.get? b = some o → h'.get? b = some o := hp.keepP
    refine h a vs n h' tk' (ints_of hds) (F.keeps keep) (fun q hq => ?_) (off1_of fun q hq => hge _ _ (N q hq).1)
    rcases List.mem_cons.mp hq with rfl | hq
    · refine ⟨ha', (hge _ _ hoL).symm, ?_⟩
      cases e : h₀.get? a with
      | none => rfl
      | some o => exact absurd rfl (hge _ _ (F.keep _ _ e))
    · obtain ⟨x, y, z⟩ := N q hq
      exact ⟨keep _ _ x, y, z⟩
theorem fmod_lo (x : Int) {m : Int} (h : 0 < m) : 0 ≤ x.fmod m := Int.fmod_nonneg_of_pos x h
theorem fmod_hi (x : Int) {m : Int} (h : 0 < m) : x.fmod m < m := Int.fmod_lt_of_pos x h
section
variable {prog : Program} {w : World} {mg mb : Str → Option Value} {h₀ : Heap} {L : Addr} {m : Str → Option Value} {news : List (Addr × Obj)} {A : Around} {s : Shared} {f : Addr}
  {x y z : Int} {t1 t2 t3 : Tok} {Q E : Value → Shared → Prop}
theorem walk_first (hA : GAll (GEof prog w mg mb h₀)) (hm : mg "_law_walk" = some (.ref f)) (hr : Room 109 A) (F : Fr h₀ L s.heap m) (N : News h₀ L s.heap news)
    (h : ∀ (ns : List Int) (a : Addr) (vs : List Value) (n : Nat) (h' : Heap) (tk' : Nat), IntsAre vs ns → ns.length ≤ 6 → (3 < 1 + x.fmod 15 → Incr ns) → Fr h₀ L h' m → News h₀ L h' ((a, W.listOf vs.toArray n) :: news) → LCg.Off1 a news →
      Q (.ref a) { s with heap := h', toks := tk' }) :
    wpAny (model prog w) A (call (.ref f) [.int (1 + x.fmod 15) t1, .int (1 + y.fmod 5) t2, .int (4 + z.fmod 5) t3]) Q E s := by
  have a1 := fmod_lo x (m := 15) (by decide)
  have a2 := fmod_hi x (m := 15) (by decide)
  have b1 := fmod_lo y (m := 5) (by decide)
  have b2 := fmod_hi y (m := 5) (by decide)
  have c1 := fmod_lo z (m := 5) (by decide)
  have c2 := fmod_hi z (m := 5) (by decide)
  obtain ⟨ns, e1, e2, e3⟩ := walk_ok (i := 1 + x.fmod 15) (j := 1 + y.fmod 5) (k := 4 + z.fmod 5) (by omega) (by omega) (by omega) (by omega) (by omega) (by omega)
  exact walk_call hA hm hr F N e1 fun a vs n h' tk' hi F' N' o' => h ns a vs n h' tk' hi e2 e3 F' N' o'
theorem walk_second (hA : GAll (GEof prog w mg mb h₀)) (hm : mg "_law_walk" = some (.ref f)) (hr : Room 109 A) (F : Fr h₀ L s.heap m) (N : News h₀ L s.heap news)
    (h : ∀ (a : Addr) (vs : List Value) (n : Nat) (h' : Heap) (tk' : Nat), IntsAre vs [3, 3, 3, 2, 1, 0] → Fr h₀ L h' m → News h₀ L h' ((a, W.listOf vs.toArray n) :: news) → LCg.Off1 a news →
      Q (.ref a) { s with heap := h', toks := tk' }) :
    wpAny (model prog w) A (call (.ref f) [.int 3 t1, .int 9 t2, .int (4 + z.fmod 5) t3]) Q E s := by
  have c1 := fmod_lo z (m := 5) (by decide)
  have c2 := fmod_hi z (m := 5) (by decide)
  exact walk_call hA hm hr F N (walk3_ok (by omega) (by omega)) fun a vs n h' tk' hi F' N' o' => h a vs n h' tk' hi F' N' o'
end
end Goo
end
-- the head
section
open PySem PySem.W PyProof.Rows
namespace Goo
def isFn : Stmt → Bool
  | .Assign .. => false
  | _ => true
def qv : Program := { PySem.Challenge.pw_xm0431_01 with main := { PySem.Challenge.pw_xm0431_01.main with body := PySem.Challenge.pw_xm0431_01.main.body.filter isFn } }
end Goo
set_option hygiene false in
local macro_rules | `(tactic| o_head $H) => `(tactic| (refine holds_open (q := Goo.qv) (loose := []) (Xt := fun s => xlAt Goo.qv [] s && recOk (RowW.records (OpenRow.toRowW (OpenLaw.row PySem.Challenge.rw_xm0431_01))) s) (XP := XL Goo.qv []) (Yf := Hook.obs $H) (Ya := Hook.val $H) (YP := Hook.says $H) (N := 3816) ?hl (Hook.of $H) (Hook.keeps $H) (fun s e => xl_of s (Bool.and_eq_true_iff.mp e).1) XL.keeps (by rfl) (by rfl) (by rfl) (fun s e => recFacts_of (Bool.and_eq_true_iff.mp e).2) (by first | rfl | fail "no write beside a table") (by first | assumption | decide +kernel) (by decide +kernel) ⟨rfl, rfl, rfl, rfl, rfl, by decide +kernel⟩ ?hw ?hc; (case hl => (intro w; unfold openEnds fencedOpening topFrom; rw [PySem.W.Fast.te10274390034422433532, PySem.W.Fast.te1435165496053646825, PySem.W.Fast.te14289696077712309145, PySem.W.Fast.te14082659384304107361, PySem.W.Fast.te4187177175401517315, PySem.W.Fast.te14364793385576792824]; kernel_rfl))))
namespace GooTop
set_option maxRecDepth 100000 in
set_option maxHeartbeats 8000000 in
open_top hd for PySem.Challenge.rw_xm0431_01
end GooTop
end
-- GWalk
section
open PySem PySem.W PyProof.Rows
set_option maxRecDepth 100000
set_option maxHeartbeats 8000000
namespace Goo
theorem recs_eq : recsOf qv = allIx.map recOf := by kernel_rfl
theorem gallV {prog : Program} {w : World} {mean : ExcName → Option Value} {mg mb : Str → Option Value} {h : Heap} (T : Top qv (looseW qv []) mean mg mb h) : GAll (GEof prog w mg mb h) :=
  gall T recs_eq (by decide +kernel) (by
    intro x hx
    simp only [biNames, List.mem_cons, List.not_mem_nil, or_false] at hx
    rcases hx with rfl | rfl | rfl | rfl | rfl <;> exact ⟨by decide +kernel, by kernel_rfl⟩)
theorem room_law (env : Env) : Room 109 (callerA.deeper env) := ⟨rfl, Nat.le_of_ble_eq_true rfl, Nat.le_of_ble_eq_true rfl⟩
section
variable {prog : Program} {w : World} {K : Frag} {mean : ExcName → Option Value} {mg mb : Str → Option Value} {h₀ : Heap} {L : Addr} {m : Str → Option Value} {news : List (Addr × Obj)} {A : Around} {s : Shared} {f : Addr}
  {x y z : Int} {t1 t2 t3 : Tok} {Q E : Value → Shared → Prop}
theorem walk_1 (T : Top qv (looseW qv []) mean mg mb h₀) (X : K.In h₀) (F : Fr h₀ L s.heap m) (N : News h₀ L s.heap news) (e : nsIn K mainGlobals "_law_walk" = some (some (.ref f))) (hr : Room 109 A)
    (h : ∀ (ns : List Int) (a : Addr) (vs : List Value) (n : Nat) (h' : Heap) (tk' : Nat), IntsAre vs ns → ns.length ≤ 6 → (3 < 1 + x.fmod 15 → Incr ns) → Fr h₀ L h' m → News h₀ L h' ((a, W.listOf vs.toArray n) :: news) → LCg.Off1 a news →
      Q (.ref a) { s with heap := h', toks := tk' }) :
    wpAny (model prog w) A (call (.ref f) [.int (1 + x.fmod 15) t1, .int (1 + y.fmod 5) t2, .int (4 + z.fmod 5) t3]) Q E s :=
  walk_first (gallV T) (mg_of X T.g e) hr F N h
theorem walk_2 (T : Top qv (looseW qv []) mean mg mb h₀) (X : K.In h₀) (F : Fr h₀ L s.heap m) (N : News h₀ L s.heap news) (e : nsIn K mainGlobals "_law_walk" = some (some (.ref f))) (hr : Room 109 A)
    (h : ∀ (a : Addr) (vs : List Value) (n : Nat) (h' : Heap) (tk' : Nat), IntsAre vs [3, 3, 3, 2, 1, 0] → Fr h₀ L h' m → News h₀ L h' ((a, W.listOf vs.toArray n) :: news) → LCg.Off1 a news →
      Q (.ref a) { s with heap := h', toks := tk' }) :
    wpAny (model prog w) A (call (.ref f) [.int 3 t1, .int 9 t2, .int (4 + z.fmod 5) t3]) Q E s :=
  walk_second (gallV T) (mg_of X T.g e) hr F N h
end
def ClMark : Prop := True
def Climb (h₀ : Heap) (L : Addr) (m : Str → Option Value) (pre post : List (Addr × Obj)) (l : Addr) (k j : Int) (v2 : Value) (n : Nat) (s : Shared) (v : Value) (s' : Shared) : Prop :=
  ∃ (r : Int) (t : Tok) (h : Heap) (tk : Nat) (t' : Tok), v = .int (r.fmod j) t ∧ s' = { s with heap := h, toks := tk } ∧ Fr h₀ L h m ∧ News h₀ L h (pre ++ (l, W.listOf #[.int k t', v2] n) :: post)
section
variable {M : Model} {A : Around} {E : Value → Shared → Prop} {Q : Value → Shared → Prop} {s : Shared} {h₀ : Heap} {L : Addr} {m : Str → Option Value} {pre post : List (Addr × Obj)} {p : Addr × Obj} {l f : Addr} {k j : Int} {v2 : Value} {n : Nat} {t t1 : Tok}
theorem climb_end {r : Int} {h : Heap} {tk : Nat} {t t' : Tok} {v : Value} {s' : Shared} (hv : v = .int (r.fmod j) t) (hs : s' = { s with heap := h, toks := tk }) (F : Fr h₀ L h m) (N : News h₀ L h (pre ++ (l, W.listOf #[.int k t', v2] n) :: post)) :
    Climb h₀ L m pre post l k j v2 n s v s' := ⟨r, t, h, tk, t', hv, hs, F, N⟩
theorem climb_cut (hc : ClMark → wpAny M A (call (.ref f) [.ref l, .int j t]) (fun v s₂ => Climb h₀ L m pre post l (k + 1) j v2 n s v s₂) E s)
    (hk : ∀ r t h tk t', Fr h₀ L h m → News h₀ L h (pre ++ (l, W.listOf #[.int (k + 1) t', v2] n) :: post) → Q (.int (Int.fmod r j) t) { s with heap := h, toks := tk }) :
    wpAny M A (call (.ref f) [.ref l, .int j t]) Q E s := by
  refine wpAny_mono (hc True.intro) (fun v s₂ hq => ?_) fun _ _ h => h
  obtain ⟨r, t, h, tk, t', rfl, rfl, F, N⟩ := hq
  exact hk r t h tk t' F N
theorem climb_0 (F : Fr h₀ L s.heap m) (N : News h₀ L s.heap ((l, W.listOf #[.int k t1, v2] n) :: post))
    (hc : ClMark → wpAny M A (call (.ref f) [.ref l, .int j t]) (fun v s₂ => Climb h₀ L m [] post l (k + 1) j v2 n s v s₂) E s)
    (hk : ∀ r t h tk t', Fr h₀ L h m → News h₀ L h ((l, W.listOf #[.int (k + 1) t', v2] n) :: post) → Q (.int (Int.fmod r j) t) { s with heap := h, toks := tk }) :
    wpAny M A (call (.ref f) [.ref l, .int j t]) Q E s := climb_cut hc hk
theorem climb_1 (F : Fr h₀ L s.heap m) (N : News h₀ L s.heap (p :: (l, W.listOf #[.int k t1, v2] n) :: post))
    (hc : ClMark → wpAny M A (call (.ref f) [.ref l, .int j t]) (fun v s₂ => Climb h₀ L m [p] post l (k + 1) j v2 n s v s₂) E s)
    (hk : ∀ r t h tk t', Fr h₀ L h m → News h₀ L h (p :: (l, W.listOf #[.int (k + 1) t', v2] n) :: post) → Q (.int (Int.fmod r j) t) { s with heap := h, toks := tk }) :
    wpAny M A (call (.ref f) [.ref l, .int j t]) Q E s := climb_cut hc hk
end
theorem fold_none {P : Int → Prop} [DecidablePred P] : ∀ {ks : List Int}, (∀ k ∈ ks, ¬ P k) → List.foldl (fun l' k' => if P k' then l' ++ [k'] else l') [] ks = []
  | [], _ => rfl
  | k :: r, h => by
    rw [List.foldl_cons, if_neg (h k (.head _))]
    exact fold_none fun k' hk => h k' (.tail _ hk)
theorem fold_nil {ns : List Int} (h : Incr ns) : List.foldl (fun l' k' => if ns.getD (k' + 1).toNat 0 ≤ ns.getD k'.toNat 0 then l' ++ [k'] else l') [] (rangeKs 0 ((ns.length : Int) - 1 - 0).toNat) = [] := by
  refine fold_none (P := fun k' => ns.getD (k' + 1).toNat 0 ≤ ns.getD k'.toNat 0) fun k hk => ?_
  obtain ⟨a, b⟩ := mem_rangeKs hk
  have h1 := h k.toNat (by omega)
  rw [show (k + 1).toNat = k.toNat + 1 by omega]
  omega
end Goo
end
open PySem PySem.W PyProof.Rows
local macro_rules | `(tactic| walk_at "call ref") => `(tactic| (k_here; (with_reducible show wpAny _ _ (call (Value.ref _) [Value.int _ _, Value.int _ _, Value.int _ _]) _ _ _); with_unfolding_all first
  | (refine' Goo.walk_1 ?k1 ?k2 ?k3 ?k4 ?k5 ?k6 ?_; (case k3 => k_asm); (case k4 => k_asm); (case k1 => k_asm); (case k2 => k_asm); (case k5 => k_is); (case k6 => exact Goo.room_law _); k_whole; intro ns' D' ws' c' h' tk' hI' hC' hU' F' N' o1'; (try simp only [LCg.Off1, and_true] at o1'))
  | (refine' Goo.walk_2 ?k1 ?k2 ?k3 ?k4 ?k5 ?k6 ?_; (case k3 => k_asm); (case k4 => k_asm); (case k1 => k_asm); (case k2 => k_asm); (case k5 => k_is); (case k6 => exact Goo.room_law _); k_whole; intro D' ws' c' h' tk' hI' F' N' o1'; (try simp only [LCg.Off1, and_true] at o1'))))
local macro_rules | `(tactic| walk_at "call ref") => `(tactic| (k_here; (with_reducible show wpAny _ _ (call (Value.ref _) [Value.ref _, Value.int _ _]) _ _ _); (fail_if_success (with_reducible rename Goo.ClMark => hmk')); k_dflt (first
  | (refine' Goo.climb_0 ?kF ?kN (fun hmk9 => ?_) (fun r' t' h' tk' t'' F' N' => ?_); (case kF => k_asm); (case kN => k_asm))
  | (refine' Goo.climb_1 ?kF ?kN (fun hmk9 => ?_) (fun r' t' h' tk' t'' F' N' => ?_); (case kF => k_asm); (case kN => k_asm))); (all_goals try dsimp only)))
local macro_rules | `(tactic| walk_at "Climb") => `(tactic| k_dflt (refine Goo.climb_end (by with_unfolding_all rfl) rfl (by k_asm) (by k_asm)))
set_option maxRecDepth 100000 in
set_option maxHeartbeats 8000000 in
theorem PySem.Challenge.cw_xm0431_01_holds : PySem.Challenge.rw_xm0431_01.Holds := by
  exact GooTop.hd (by
    k_go0
    (all_goals try k_fold)
    k_steps
    all_goals (exfalso; (rename (3 : Int) < _ → Goo.Incr _ => hU9); (rename (3 : Int) < _ => hS9); (rename decide _ = false => hD9); exact of_decide_eq_false hD9 (Goo.fold_nil (hU9 hS9))))
