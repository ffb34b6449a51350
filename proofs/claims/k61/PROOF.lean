import PyProof.Rows.All
import Wide.All
import OpenK.AllK
import Wide.FinOn
import HandS.ForMost
import HandS.Exc
import HandS.Lambda
import HandS.Nested
import HandS.ForExc
import HandS.CallSlots
import HandS.Wide
import HandS.WideBits
import HandS.Style
import HandS.IsInst
import HandS.Deep
import HandS.More
import HandS.Conv
import HandS.SortInts
import KE.KSort
import PyProof.ReprRoads
import PyProof.ReprLen
import PyProof.CallFns
import HandS.DeepEq
import PyProof.Rows.ReprOcc
import HandS.DictComp
import HandS.ExcSuper
import HandS.ExcInit
import KE.KSuper
import HandS.ExcIs
import HandS.ExcField
import HandS.ExcValue
import HandS.Ends
import HandS.SetFor
import HandS.Zip
import HandS.Strs
import KE.SortKeyed
import HandS.SortKw
import HandS.EndTab
import HandS.TupAny
import HandS.TupLe
import KE.KUnpack
import HandS.DictTup
import HandS.Small
import KE.KDictItemsList
import KE.DataMinMax
import PySem.Challenge.RW_twinties_k61_leagues_refused
set_option Elab.async false
set_option linter.all false
set_option maxRecDepth 100000
set_option maxHeartbeats 4000000
noncomputable section
namespace Pm
open PySem
open L2 (V Hp HO)
def ieq : Int → Int → Bool
  | .ofNat m, .ofNat n => Nat.beq m n
  | .negSucc m, .negSucc n => Nat.beq m n
  | _, _ => false
def ilt : Int → Int → Bool
  | .ofNat m, .ofNat n => Nat.blt m n
  | .negSucc m, .negSucc n => Nat.blt n m
  | .negSucc _, .ofNat _ => true
  | .ofNat _, .negSucc _ => false
def ile (i j : Int) : Bool := !ilt j i
inductive SD where
  | non | bl (b : Bool) | int (i : Int) | sym (k : Nat) (a c : Int) | str (x : List Nat) | rep (d : SD) | cat (d e : SD)
  | lst (xs : List SD) | tup (xs : List SD) | dct (ks vs : List SD)

abbrev Loc := Nat
inductive Ty where
  | non | bool | int | str | list | tuple | dict | set | float | verr | xcp | obj
def Ty.nm : Ty → String
  | .non => "NoneType" | .bool => "bool" | .int => "int" | .str => "str" | .list => "list" | .tuple => "tuple" | .dict => "dict" | .set => "set" | .float => "float" | .verr => "ValueError" | .xcp => "Exception" | .obj => "object"
def Ty.isT : Ty → Ty → Bool
  | _, .obj => true
  | .non, .non => true
  | .bool, .bool => true
  | .bool, .int => true
  | .int, .int => true
  | .str, .str => true
  | .list, .list => true
  | .tuple, .tuple => true
  | .dict, .dict => true
  | .set, .set => true
  | .float, .float => true
  | .verr, .verr => true
  | .verr, .xcp => true
  | .xcp, .xcp => true
  | _, _ => false
inductive W where
  | non | bl (b : Bool) | int (i : Int) | sym (k : Nat) (a c : Int) | txt (d : SD) | ref (l : Loc) | ty (n : Ty) | glo (g : Nat) | scr | raw (k : Nat)

inductive Cell where
  | lst (xs : List W)
  | tup (xs : List W)
  | dct (kvs : List (Sum Int (List Nat) × W))
  | set (xs : List Int)
  | xd (v : W)
  | exc (c : Nat) (d : Loc)
  | exn (c : Nat)
  | lam (i : Nat) (act : Option Nat)
  | dtp (kvs : List (List Int × W))
  | ali (xs : List W)

inductive Tr where
  | lf
  | nd (l : Tr) (c : Option Cell) (r : Tr)
def Tr.get (t : Tr) : Nat → Option Cell := Tr.rec (motive := fun _ => Nat → Option Cell) (fun _ => none) (fun _ c _ gl gr i => Nat.rec (motive := fun _ => Option Cell) c (fun k _ => Bool.rec (motive := fun _ => Option Cell) (gr (k / 2)) (gl (k / 2)) (Nat.beq (k % 2) 0)) i) t
def Tr.put (f : Nat) : Tr → Nat → Cell → Tr := Nat.rec (motive := fun _ => Tr → Nat → Cell → Tr) (fun t _ _ => t) (fun _ ih t i x => Tr.rec (motive := fun _ => Tr)
  (Nat.rec (motive := fun _ => Tr) (.nd .lf (some x) .lf) (fun k _ => Bool.rec (motive := fun _ => Tr) (.nd .lf none (ih .lf (k / 2) x)) (.nd (ih .lf (k / 2) x) none .lf) (Nat.beq (k % 2) 0)) i)
  (fun l c r _ _ => Nat.rec (motive := fun _ => Tr) (.nd l (some x) r) (fun k _ => Bool.rec (motive := fun _ => Tr) (.nd l c (ih r (k / 2) x)) (.nd (ih l (k / 2) x) c r) (Nat.beq (k % 2) 0)) i) t) f
structure AH where
  n : Nat
  k : Nat
  s : List Int
  t : Tr
def AH.get (h : AH) (l : Loc) : Option Cell := h.t.get l
def AH.put (h : AH) (l : Loc) (c : Cell) : AH := ⟨h.n, h.k, h.s, Tr.put (l + 1) h.t l c⟩
def AH.new (h : AH) (c : Cell) : AH := ⟨h.n + 1, h.k, h.s, Tr.put (h.n + 1) h.t h.n c⟩
def AH.nil (s : List Int) : AH := ⟨0, 0, s, .lf⟩

inductive Res (α : Type) where
  | ok (a : α) (h : AH) | exc (c : Nat) (d : Loc) (h : AH) | no
def Res.bind {α β : Type} (r : Res α) (k : α → AH → Res β) : Res β := Res.rec (motive := fun _ => Res β) k (fun c d h => .exc c d h) .no r
def ofO {α : Type} (r : Option (α × AH)) : Res α := Option.rec (motive := fun _ => Res α) .no (fun p => Prod.rec (motive := fun _ => Res α) (fun a h => .ok a h) p) r
abbrev Sl := List (Option W)
abbrev Fn := List W → AH → Res W
abbrev Lm := Nat → Option Nat → Option Fn
abbrev EM := Sl → AH → Res W
abbrev CM := Sl → AH → Res Bool
abbrev AM := Sl → AH → Res (List W)
inductive SR where
  | nx (σ : Sl) (h : AH) | rt (v : W) (h : AH) | bk (σ : Sl) (h : AH) | ct (σ : Sl) (h : AH) | exc (c : Nat) (d : Loc) (σ : Sl) (h : AH) | no
abbrev SM := Sl → AH → SR
abbrev Op1 := W → AH → Option (W × AH)
abbrev Op2 := W → W → AH → Option (W × AH)
abbrev OpN := List W → AH → Option (W × AH)

def sget (s : Sl) : Nat → Option W := List.rec (motive := fun _ => Nat → Option W) (fun _ => none) (fun x _ ih i => Nat.rec (motive := fun _ => Option W) x (fun k _ => ih k) i) s
def sput (s : Sl) : Nat → Option W → Sl := List.rec (motive := fun _ => Nat → Option W → Sl) (fun _ _ => []) (fun y r ih i x => Nat.rec (motive := fun _ => Sl) (x :: r) (fun k _ => y :: ih k x) i) s
def swipe (σ : Sl) : List Nat → Sl
  | [] => σ
  | v :: vs => sput (swipe σ vs) v none

def eVar (i : Nat) : EM := fun σ h => Option.rec (motive := fun _ => Res W) .no (fun w => .ok w h) (sget σ i)
def eC (w : W) : EM := fun _ h => .ok w h
def eOp1 (f : Op1) (a : EM) : EM := fun σ h => (a σ h).bind fun x h1 => ofO (f x h1)
def eOp2 (f : Op2) (a b : EM) : EM := fun σ h => (a σ h).bind fun x h1 => (b σ h1).bind fun y h2 => ofO (f x y h2)
def evs (es : List EM) : AM := List.rec (motive := fun _ => AM) (fun _ h => .ok [] h) (fun e _ ih σ h => (e σ h).bind fun x h1 => (ih σ h1).bind fun xs h2 => .ok (x :: xs) h2) es
def eOpN (f : OpN) (es : List EM) : EM := fun σ h => (evs es σ h).bind fun xs h1 => ofO (f xs h1)
def eCall (f : Fn) (es : List EM) : EM := fun σ h => (evs es σ h).bind f
def eCallK (f : Fn) (g : List W → List W → List W) (es ks : List EM) : EM := fun σ h => (evs es σ h).bind fun xs h1 => (evs ks σ h1).bind fun zs h2 => f (g xs zs) h2
def eIf (c : CM) (a b : EM) : EM := fun σ h => (c σ h).bind fun t h1 => match t with
  | true => a σ h1
  | false => b σ h1
def eAnd (a b : EM) : EM := fun σ h => (a σ h).bind fun t h1 => match t with
  | .bl true => b σ h1
  | .bl false => .ok (.bl false) h1
  | _ => .no
def eOr (a b : EM) : EM := fun σ h => (a σ h).bind fun t h1 => match t with
  | .bl false => b σ h1
  | .bl true => .ok (.bl true) h1
  | _ => .no
def eNot (a : EM) : EM := fun σ h => (a σ h).bind fun t h1 => match t with
  | .bl b => .ok (.bl (!b)) h1
  | _ => .no
def eChain (f g : Op2) (a b c : EM) : EM := fun σ h => (a σ h).bind fun x h1 => (b σ h1).bind fun y h2 => (ofO (f x y h2)).bind fun t h3 => match t with
  | .bl true => (c σ h3).bind fun z h4 => ofO (g y z h4)
  | .bl false => .ok (.bl false) h3
  | _ => .no
def cVal (e : EM) : CM := fun σ h => (e σ h).bind fun x h1 => match x with
  | .bl b => .ok b h1
  | _ => .no
def cNot (c : CM) : CM := fun σ h => (c σ h).bind fun b h1 => .ok (!b) h1
def cAnd (a b : CM) : CM := fun σ h => (a σ h).bind fun t h1 => match t with
  | true => b σ h1
  | false => .ok false h1
def cOr (a b : CM) : CM := fun σ h => (a σ h).bind fun t h1 => match t with
  | true => .ok true h1
  | false => b σ h1
def cYes : CM := fun _ h => .ok true h
def mkTup (xs : List W) (h : AH) : Option (W × AH) := match Nat.ble xs.length 1000000 with
  | true => some (.ref h.n, h.new (.tup xs))
  | false => none
def mkLst (xs : List W) (h : AH) : Option (W × AH) := match Nat.ble xs.length 1000000 with
  | true => some (.ref h.n, h.new (.lst xs))
  | false => none
inductive MIt where
  | lst (l : Loc) | tup (l : Loc) | rng (lo : Int) (n : Nat) | enu (l : Loc) | zip (a b : Loc) | rev (l : Loc) | rvn (l : Loc) (n : Nat) | rgs (lo c : Int) (n : Nat)
inductive Nx where
  | stop | yld (x : W) (h : AH) | no
def litems (h : AH) (l : Loc) : Option (List W) := match h.get l with
  | some (.lst xs) => some xs
  | _ => none
def titems (h : AH) (l : Loc) : Option (List W) := match h.get l with
  | some (.tup xs) => some xs
  | _ => none
def nth (s : List W) : Nat → Option W := List.rec (motive := fun _ => Nat → Option W) (fun _ => none) (fun x _ ih i => Nat.rec (motive := fun _ => Option W) (some x) (fun k _ => ih k) i) s
def MIt.next (J : MIt) (i : Nat) (h : AH) : Nx := match J with
  | .lst l => (match litems h l with
    | some xs => (match nth xs i with
      | some x => .yld x h
      | none => .stop)
    | none => .no)
  | .tup l => (match titems h l with
    | some xs => (match nth xs i with
      | some x => .yld x h
      | none => .stop)
    | none => .no)
  | .rng lo n => (match Nat.blt i n with
    | true => .yld (.int (lo + i)) h
    | false => .stop)
  | .enu l => (match litems h l with
    | some xs => (match nth xs i with
      | some x => .yld (.ref h.n) (h.new (.tup [.int i, x]))
      | none => .stop)
    | none => .no)
  | .zip a b => (match litems h a, litems h b with
    | some xs, some ys => (match nth xs i, nth ys i with
      | some x, some y => .yld (.ref h.n) (h.new (.tup [x, y]))
      | _, _ => .stop)
    | _, _ => .no)
  | .rev l => (match litems h l with
    | some xs => (match nth xs.reverse i with
      | some x => .yld x h
      | none => .stop)
    | none => .no)
  | .rvn l n => (match Nat.blt i n with
    | true => (match litems h l with
      | some xs => (match nth xs (n - 1 - i) with
        | some x => .yld x h
        | none => .no)
      | none => .no)
    | false => .stop)
  | .rgs lo c n => (match Nat.blt i n with
    | true => .yld (.int (lo + i * c)) h
    | false => .stop)
abbrev IM := Sl → AH → Res MIt
inductive Tg where
  | nm (i : Nat) | tp (is : List Nat)
def sputs : Sl → List Nat → List W → Option Sl
  | σ, [], [] => some σ
  | σ, i :: is, x :: xs => sputs (sput σ i (some x)) is xs
  | _, _, _ => none
def Tg.put (t : Tg) (x : W) (σ : Sl) (h : AH) : Option Sl := match t with
  | .nm i => some (sput σ i (some x))
  | .tp is => (match x with
    | .ref l => (match titems h l with
      | some xs => sputs σ is xs
      | none => none)
    | _ => none)
def lcLoop (J : MIt) (t : Tg) (own : List Nat) (c : CM) (e : EM) (d : Loc) (σ : Sl) (f : Nat) : Nat → AH → Res W := Nat.rec (motive := fun _ => Nat → AH → Res W) (fun _ _ => .no) (fun _ ih i h => match J.next i h with
    | .no => .no
    | .stop => .ok (.ref d) h
    | .yld x h1 => match t.put x σ h1 with
      | none => .no
      | some σ1 => match c σ1 h1 with
        | .ok false h2 => ih (i + 1) h2
        | .ok true h2 => (match e σ1 h2 with
          | .ok y h3 => (match h3.get d with
            | some (.lst acc) => (match Nat.blt acc.length 1000000 with
              | true => ih (i + 1) (h3.put d (.lst (acc ++ [y])))
              | false => .no)
            | _ => .no)
          | _ => .no)
        | _ => .no) f
def eLc (it : IM) (t : Tg) (own : List Nat) (c : CM) (e : EM) : EM := fun σ h => (it σ h).bind fun J h1 => lcLoop J t own c e h1.n (swipe σ own) 1000001 0 (h1.new (.lst []))
def sNx : SM := fun σ h => .nx σ h
def sSeq (a b : SM) : SM := fun σ h => SR.rec (motive := fun _ => SR) b (fun v h => .rt v h) (fun σ h => .bk σ h) (fun σ h => .ct σ h) (fun c d σ h => .exc c d σ h) .no (a σ h)
def Res.toSR {α : Type} (r : Res α) (σ : Sl) (k : α → AH → SR) : SR := Res.rec (motive := fun _ => SR) k (fun c d h => .exc c d σ h) .no r
def sIf (c : CM) (a b : SM) : SM := fun σ h => (c σ h).toSR σ fun t h1 => match t with
  | true => a σ h1
  | false => b σ h1
def sRet (e : EM) : SM := fun σ h => (e σ h).toSR σ fun v h1 => .rt v h1
def sDrop (e : EM) : SM := fun σ h => (e σ h).toSR σ fun _ h1 => .nx σ h1
def sSet (i : Nat) (e : EM) : SM := fun σ h => (e σ h).toSR σ fun v h1 => .nx (sput σ i (some v)) h1
def sTgt (t : Tg) (e : EM) : SM := fun σ h => (e σ h).toSR σ fun v h1 => match t.put v σ h1 with
  | some σ' => .nx σ' h1
  | none => .no
def forLoop (J : MIt) (t : Tg) (b : SM) (f : Nat) : Nat → Sl → AH → SR := Nat.rec (motive := fun _ => Nat → Sl → AH → SR) (fun _ _ _ => .no) (fun _ ih i σ h => match J.next i h with
    | .no => .no
    | .stop => .nx σ h
    | .yld x h1 => match t.put x σ h1 with
      | none => .no
      | some σ1 => match b σ1 h1 with
        | .nx σ2 h2 => ih (i + 1) σ2 h2
        | .ct σ2 h2 => ih (i + 1) σ2 h2
        | .bk σ2 h2 => .nx σ2 h2
        | r => r) f
def sFor (it : IM) (t : Tg) (b : SM) : SM := fun σ h => (it σ h).toSR σ fun J h1 => forLoop J t b 1000001 0 σ h1
def sSub (f : W → W → W → AH → Option AH) (e o i : EM) : SM := fun σ h => (e σ h).toSR σ fun v h1 => (o σ h1).toSR σ fun x h2 => (i σ h2).toSR σ fun y h3 => match f x y v h3 with
  | some h4 => .nx σ h4
  | none => .no
def sRaise (mk : Sl → AH → Res (Nat × Loc)) : SM := fun σ h => (mk σ h).toSR σ fun p h1 => .exc p.1 p.2 σ h1
def start (n : Nat) (vs : List W) : Sl := List.rec (motive := fun _ => Nat → Sl) (fun n => Nat.rec (motive := fun _ => Sl) [] (fun _ ih => none :: ih) n) (fun v _ ih n => some v :: ih (Nat.pred n)) vs n
def callM (n k : Nat) (b : SM) : Fn := fun vs h => match Nat.beq vs.length k with
  | false => .no
  | true => match b (start n vs) h with
    | .nx _ h' => .ok .non h'
    | .rt v h' => .ok v h'
    | .exc c d _ h' => .exc c d h'
    | _ => .no
def isAli : Option Cell → Bool
  | some (.ali _) => true
  | _ => false
def sPar (i j : Nat) (a b : EM) : SM := fun σ h => (a σ h).toSR σ fun v h1 => (b σ h1).toSR σ fun w h2 => .nx (sput (sput σ i (some v)) j (some w)) h2
def iSeq (e : EM) : IM := fun σ h => (e σ h).bind fun x h1 => match x with
  | .ref l => (match litems h1 l with
    | some _ => .ok (.lst l) h1
    | none => (match titems h1 l with
      | some _ => .ok (.tup l) h1
      | none => .no))
  | _ => .no
def iEnu (e : EM) : IM := fun σ h => (e σ h).bind fun x h1 => match x with
  | .ref l => (match litems h1 l with
    | some _ => .ok (.enu l) h1
    | none => .no)
  | _ => .no
def smallI (i : Int) : Bool := ilt (-4611686018427387905) i && ilt i 4611686018427387904
def iRng1 (e : EM) : IM := fun σ h => (e σ h).bind fun x h1 => match x with
  | .int j => (match smallI j with
    | true => .ok (.rng 0 j.toNat) h1
    | false => .no)
  | _ => .no
def iRng2 (a b : EM) : IM := fun σ h => (a σ h).bind fun x h1 => (b σ h1).bind fun y h2 => match x, y with
  | .int i, .int j => (match smallI i && smallI j with
    | true => .ok (.rng i (j - i).toNat) h2
    | false => .no)
  | _, _ => .no
def ixAt (n : Nat) (i : Int) : Option Nat := match i with
  | .ofNat k => (match Nat.blt k n with
    | true => some k
    | false => none)
  | .negSucc k => (match Nat.blt k n with
    | true => some (n - 1 - k)
    | false => none)
def bitsOk (i j : Int) : Bool := Nat.blt (i.natAbs.log2 + j.natAbs.log2) 1000000
def shortI (i : Int) : Bool := Nat.blt i.natAbs 18446744073709551616
def oAdd : Op2 := fun x y h => match x, y with
  | .int i, .int j => some (.int (i + j), h)
  | .sym k a c, .int j => some (.sym k a (c + j), h)
  | .int i, .sym k a c => some (.sym k a (i + c), h)
  | .ref l, .ref l2 => (match h.get l, h.get l2 with
    | some (.lst xs), some (.lst ys) => (match Nat.ble (xs.length + ys.length) 1000000 with
      | true => some (.ref h.n, h.new (.lst (xs ++ ys)))
      | false => none)
    | _, _ => none)
  | _, _ => none
def oSub : Op2 := fun x y h => match x, y with
  | .int i, .int j => some (.int (i - j), h)
  | .sym k a c, .int j => some (.sym k a (c - j), h)
  | .int i, .sym k a c => some (.sym k (-a) (i - c), h)
  | _, _ => none
def reps : Nat → List W → List W
  | 0, _ => []
  | n + 1, xs => xs ++ reps n xs
def oMul : Op2 := fun x y h => match x, y with
  | .int i, .int j => (match bitsOk i j with
    | true => some (.int (i * j), h)
    | false => none)
  | .int i, .sym k a c => (match shortI i with
    | true => some (.sym k (i * a) (i * c), h)
    | false => none)
  | .ref l, .int n => (match h.get l with
    | some (.lst xs) => (match Nat.ble n.natAbs 1000000 && Nat.ble (xs.length * n.toNat) 1000000 with
      | true => some (.ref h.n, h.new (.lst (reps n.toNat xs)))
      | false => none)
    | _ => none)
  | _, _ => none
def oFdiv : Op2 := fun x y h => match x, y with
  | .int i, .int j => (match ilt 0 j && Nat.blt j.natAbs.log2 9000 with
    | true => some (.int (i / j), h)
    | false => none)
  | _, _ => none
def oMod : Op2 := fun x y h => match x, y with
  | .int i, .int j => (match ilt 0 j with
    | true => some (.int (i % j), h)
    | false => none)
  | _, _ => none
def oPow : Op2 := fun x y h => match x, y with
  | .int i, .int j => (match ile 0 j && ile ((Builtin.Int.intBits i : Int) * j) 134217728 with
    | true => some (.int (i ^ j.toNat), h)
    | false => none)
  | _, _ => none
def oNeg : Op1 := fun x h => match x with
  | .int i => some (.int (-i), h)
  | .sym k a c => some (.sym k (-a) (-c), h)
  | _ => none
def hiI (a c : Int) : Int := match a with
  | .ofNat _ => a * 1000000000000000000000000000000 + c
  | _ => c
def loI (a c : Int) : Int := match a with
  | .ofNat _ => c
  | _ => a * 1000000000000000000000000000000 + c
def wlt : W → W → Option Bool
  | .int i, .int j => some (ilt i j)
  | .sym _ a c, .int j => if ilt (hiI a c) j then some true else if ile j (loI a c) then some false else none
  | .int i, .sym _ a c => if ilt i (loI a c) then some true else if ile (hiI a c) i then some false else none
  | _, _ => none
def oLt : Op2 := fun x y h => match wlt x y with
  | some b => some (.bl b, h)
  | none => none
def oGt : Op2 := fun x y h => match wlt y x with
  | some b => some (.bl b, h)
  | none => none
def oLe : Op2 := fun x y h => match wlt y x with
  | some b => some (.bl (!b), h)
  | none => none
def oGe : Op2 := fun x y h => match wlt x y with
  | some b => some (.bl (!b), h)
  | none => none
def oIs : Op2 := fun x y h => match x, y with
  | .bl a, .bl b => some (.bl (a == b), h)
  | .non, .non => some (.bl true, h)
  | .txt _, .non => some (.bl false, h)
  | .int _, .non => some (.bl false, h)
  | .sym _ _ _, .non => some (.bl false, h)
  | .bl _, .non => some (.bl false, h)
  | .ref _, .non => some (.bl false, h)
  | _, _ => none
def oIsNot : Op2 := fun x y h => match oIs x y h with
  | some (.bl b, h') => some (.bl (!b), h')
  | _ => none
def oIx : Op2 := fun x y h => match x, y with
  | .ref l, .int i => (match h.get l with
    | some (.lst xs) => (match ixAt xs.length i with
      | some j => (match nth xs j with
        | some v => some (v, h)
        | none => none)
      | none => none)
    | some (.tup xs) => (match ixAt xs.length i with
      | some j => (match nth xs j with
        | some v => some (v, h)
        | none => none)
      | none => none)
    | _ => none)
  | .scr, .int i => (match ixAt (h.s.map W.int).length i with
    | some j => (match nth (h.s.map W.int) j with
      | some v => some (v, h)
      | none => none)
    | none => none)
  | _, _ => none
def oSetIx (o i v : W) (h : AH) : Option AH := match o, i with
  | .ref l, .int k => (match h.get l with
    | some (.lst xs) => (match ixAt xs.length k with
      | some j => some (h.put l (.lst (xs.set j v)))
      | none => none)
    | _ => none)
  | _, _ => none
def cut (n : Nat) (d : Nat) : Option Int → Nat
  | none => d
  | some v => match v with
    | .ofNat k => min k n
    | .negSucc k => n - (k + 1)
def cutW (xs : List W) (lo hi : Option Int) : List W := (xs.drop (cut xs.length 0 lo)).take (cut xs.length xs.length hi - cut xs.length 0 lo)
def oCut (x : W) (lo hi : Option Int) (h : AH) : Option (W × AH) := match x with
  | .ref l => (match h.get l with
    | some (.lst xs) => some (.ref h.n, h.new (.lst (cutW xs lo hi)))
    | some (.tup xs) => (match Nat.beq (cut xs.length 0 lo) 0 && Nat.beq (cut xs.length xs.length hi) xs.length with
      | true => none
      | false => some (.ref h.n, h.new (.tup (cutW xs lo hi))))
    | _ => none)
  | .scr => some (.ref h.n, h.new (.lst (cutW (h.s.map W.int) lo hi)))
  | _ => none
abbrev OM := Sl → AH → Res (Option Int)
def oNone : OM := fun _ h => .ok none h
def oSome (e : EM) : OM := fun σ h => (e σ h).bind fun x h1 => match x with
  | .int i => .ok (some i) h1
  | _ => .no
def eCut (a : EM) (lo hi : OM) : EM := fun σ h => (a σ h).bind fun x h1 => (lo σ h1).bind fun l h2 => (hi σ h2).bind fun u h3 => ofO (oCut x l u h3)
def items (h : AH) : W → Option (List W)
  | .ref l => (match h.get l with
    | some (.lst xs) => some xs
    | some (.tup xs) => some xs
    | _ => none)
  | .scr => some (h.s.map W.int)
  | _ => none
def oLen : OpN := fun xs h => match xs with
  | [x] => (match items h x with
    | some ys => some (.int ys.length, h)
    | none => none)
  | _ => none
def oList : OpN := fun xs h => match xs with
  | [x] => (match items h x with
    | some ys => some (.ref h.n, h.new (.lst ys))
    | none => none)
  | _ => none
def oInt : OpN := fun xs h => match xs with
  | [.int i] => some (.int i, h)
  | [.sym k a c] => some (.sym k a c, h)
  | [.bl true] => some (.int 1, h)
  | [.bl false] => some (.int 0, h)
  | _ => none
def oMax2 : OpN := fun xs h => match xs with
  | [.int i, .int j] => some (.int (match ilt i j with | true => j | false => i), h)
  | _ => none
def oMin2 : OpN := fun xs h => match xs with
  | [.int i, .int j] => some (.int (match ilt j i with | true => j | false => i), h)
  | _ => none
def kind (h : AH) : W → Option Ty
  | .non => some .non
  | .bl _ => some .bool
  | .int _ => some .int
  | .sym _ _ _ => some .int
  | .txt _ => some .str
  | .scr => some .list
  | .ref l => (match h.get l with
    | some (.lst _) => some .list
    | some (.tup _) => some .tuple
    | some (.dct _) => some .dict
    | some (.set _) => some .set
    | _ => none)
  | _ => none
def wints : List W → Option (List Int)
  | [] => some []
  | .int i :: r => (match wints r with
    | some is => some (i :: is)
    | none => none)
  | _ => none
def lst? (h : AH) : W → Option (List W)
  | .ref l => (match h.get l with
    | some (.lst xs) => some xs
    | _ => none)
  | .scr => some (h.s.map W.int)
  | _ => none
def oInts (f : List Int → AH → Option (W × AH)) : OpN := fun xs h => match xs with
  | [x] => (match lst? h x with
    | some ys => (match wints ys with
      | some is => f is h
      | none => none)
    | none => none)
  | _ => none
def ins : Int → List Int → List Int
  | x, [] => [x]
  | x, y :: r => match ile x y with
    | true => x :: y :: r
    | false => y :: ins x r
def isort : List Int → List Int
  | [] => []
  | x :: r => ins x (isort r)
def imax : Int → List Int → Int
  | m, [] => m
  | m, x :: r => match ilt m x with
    | true => imax x r
    | false => imax m r
def imin : Int → List Int → Int
  | m, [] => m
  | m, x :: r => match ilt x m with
    | true => imin x r
    | false => imin m r
def oMaxL : OpN := oInts fun is h => match is with
  | [] => none
  | x :: r => some (.int (imax x r), h)
def oMinL : OpN := oInts fun is h => match is with
  | [] => none
  | x :: r => some (.int (imin x r), h)
def oAppend : Op2 := fun x y h => match x with
  | .ref l => (match h.get l with
    | some (.lst xs) => (match Nat.blt xs.length 1000000 with
      | true => some (.non, h.put l (.lst (xs ++ [y])))
      | false => none)
    | _ => none)
  | _ => none
def isL (h : AH) : W → Bool
  | .ref l => (match h.get l with
    | some (.lst _) => true
    | _ => false)
  | _ => false
def eMeth (chk : AH → W → Bool) (f : Op2) (a b : EM) : EM := fun σ h => (a σ h).bind fun x h1 => match chk h1 x with
  | true => (b σ h1).bind fun y h2 => ofO (f x y h2)
  | false => .no
def symEq (a c i : Int) : Option Bool := match ilt i (loI a c) with
  | true => some false
  | false => (match ilt (hiI a c) i with
    | true => some false
    | false => none)
def leq : List Nat → List Nat → Bool
  | [], [] => true
  | x :: r, y :: t => Nat.beq x y && leq r t
  | _, _ => false
def bI : Bool → Int
  | true => 1
  | false => 0
def sdEq (d : SD) : SD → Option Bool := SD.rec (motive_1 := fun _ => SD → Option Bool) (motive_2 := fun _ => List SD → Option Bool)
  (fun e => match e with
    | .non => some true
    | .dct _ _ => none
    | _ => some false)
  (fun a e => match e with
    | .bl b => some (a == b)
    | .int j => some (ieq (bI a) j)
    | .sym _ k c => symEq k c (bI a)
    | .dct _ _ => none
    | _ => some false)
  (fun i e => match e with
    | .bl b => some (ieq i (bI b))
    | .int j => some (ieq i j)
    | .sym _ k c => symEq k c i
    | .dct _ _ => none
    | _ => some false)
  (fun n k c e => match e with
    | .bl b => symEq k c (bI b)
    | .int j => symEq k c j
    | .sym n' k' c' => (match Nat.beq n n' && ieq k k' with
      | true => some (ieq c c')
      | false => none)
    | .dct _ _ => none
    | _ => some false)
  (fun x e => match e with
    | .str y => some (leq x y)
    | .rep _ => none
    | .cat _ _ => none
    | .dct _ _ => none
    | _ => some false)
  (fun _ _ _ => none)
  (fun _ _ _ _ _ => none)
  (fun _ ih e => match e with
    | .lst ys => ih ys
    | .dct _ _ => none
    | _ => some false)
  (fun _ ih e => match e with
    | .tup ys => ih ys
    | .dct _ _ => none
    | _ => some false)
  (fun _ _ _ _ _ => none)
  (fun ys => match ys with
    | [] => some true
    | _ => some false)
  (fun _ _ ih1 ih2 ys => match ys with
    | [] => some false
    | y :: ys => (match ih1 y with
      | some true => ih2 ys
      | some false => some false
      | none => (match ih2 ys with
        | some false => some false
        | _ => none)))
  d
def int100 (i : Int) : Bool := Nat.blt i.natAbs 10000000000000000000000000000000000000000000000000000000000000000000000000000000000000000000000000000
def int50 (i : Int) : Bool := Nat.blt i.natAbs 100000000000000000000000000000000000000000000000000
def SD.fit (d : SD) : Option (Nat × Nat) := SD.rec (motive_1 := fun _ => Option (Nat × Nat)) (motive_2 := fun _ => Option (Nat × Nat))
  (some (0, 0))
  (fun _ => some (0, 0))
  (fun i => match Nat.blt i.natAbs 1048576 with
    | true => some (21, 0)
    | false => (match int100 i with
      | true => some (700, 0)
      | false => none))
  (fun _ a c => match int50 a && int50 c with
    | true => some (700, 0)
    | false => none)
  (fun x => match x.all fun c => Nat.blt c 1114112 with
    | true => some (x.length, 0)
    | false => none)
  (fun _ _ => none)
  (fun _ _ _ _ => none)
  (fun _ ih => match ih with
    | some (w, k) => some (w, k + 1)
    | none => none)
  (fun _ ih => match ih with
    | some (w, k) => some (w, k + 1)
    | none => none)
  (fun _ _ _ _ => none)
  (some (0, 0))
  (fun _ _ ih1 ih2 => match ih1 with
    | none => none
    | some (w, k) => (match ih2 with
      | none => none
      | some (w', k') => some (w + 1 + w', Nat.max k k')))
  d
def SD.fits (d : List SD) : Option (Nat × Nat) := SD.rec_1 (motive_1 := fun _ => Option (Nat × Nat)) (motive_2 := fun _ => Option (Nat × Nat))
  (some (0, 0))
  (fun _ => some (0, 0))
  (fun i => match Nat.blt i.natAbs 1048576 with
    | true => some (21, 0)
    | false => (match int100 i with
      | true => some (700, 0)
      | false => none))
  (fun _ a c => match int50 a && int50 c with
    | true => some (700, 0)
    | false => none)
  (fun x => match x.all fun c => Nat.blt c 1114112 with
    | true => some (x.length, 0)
    | false => none)
  (fun _ _ => none)
  (fun _ _ _ _ => none)
  (fun _ ih => match ih with
    | some (w, k) => some (w, k + 1)
    | none => none)
  (fun _ ih => match ih with
    | some (w, k) => some (w, k + 1)
    | none => none)
  (fun _ _ _ _ => none)
  (some (0, 0))
  (fun _ _ ih1 ih2 => match ih1 with
    | none => none
    | some (w, k) => (match ih2 with
      | none => none
      | some (w', k') => some (w + 1 + w', Nat.max k k')))
  d
def rds (f : W → Option SD) (l : List W) : Option (List SD) := List.rec (motive := fun _ => Option (List SD)) (some []) (fun x _ ih => match f x with
    | none => none
    | some d => (match ih with
      | none => none
      | some ds => some (d :: ds))) l
def rd (f : Nat) : AH → W → Option SD := Nat.rec (motive := fun _ => AH → W → Option SD) (fun _ _ => none) (fun _ ih h w => match w with
    | .non => some .non
    | .bl b => some (.bl b)
    | .int i => some (.int i)
    | .sym k a c => some (.sym k a c)
    | .txt (.str x) => some (.str x)
    | .ref l => (match h.get l with
      | some (.lst xs) => (match rds (ih h) xs with
        | some ds => some (.lst ds)
        | none => none)
      | some (.tup xs) => (match rds (ih h) xs with
        | some ds => some (.tup ds)
        | none => none)
      | some (.ali xs) => (match rds (ih h) xs with
        | some ds => some (.tup ds)
        | none => none)
      | _ => none)
    | _ => none) f
def rdE : Nat → AH → W → Option SD
  | 0, _, _ => none
  | f + 1, h, w => match w with
    | .non => some .non
    | .bl b => some (.bl b)
    | .int i => some (.int i)
    | .sym k a c => some (.sym k a c)
    | .txt (.str x) => some (.str x)
    | .ref l => (match h.get l with
      | some (.lst xs) => (match rds (rdE f h) xs with
        | some ds => some (.lst ds)
        | none => none)
      | some (.tup xs) => (match rds (rdE f h) xs with
        | some ds => some (.tup ds)
        | none => none)
      | some (.dct []) => some (.dct [] [])
      | _ => none)
    | _ => none
mutual
def fitE : SD → Option (Nat × Nat)
  | .lst xs => (match fitEs xs with
    | some (w, k) => some (w, k + 1)
    | none => none)
  | .tup xs => (match fitEs xs with
    | some (w, k) => some (w, k + 1)
    | none => none)
  | .dct ks vs => (match ks, vs with
    | [], [] => some (0, 1)
    | _, _ => none)
  | .non => some (0, 0)
  | .bl _ => some (0, 0)
  | .int i => SD.fit (.int i)
  | .sym k a c => SD.fit (.sym k a c)
  | .str x => SD.fit (.str x)
  | .rep _ => none
  | .cat _ _ => none
def fitEs : List SD → Option (Nat × Nat)
  | [] => some (0, 0)
  | d :: r => (match fitE d with
    | none => none
    | some (w, k) => (match fitEs r with
      | none => none
      | some (w', k') => some (w + 1 + w', Nat.max k k')))
end
def reprE (h : AH) (x : W) : Option (W × AH) := match rdE 60 h x with
  | some d => (match fitE d with
    | none => none
    | some (w, k) => (match Nat.ble w 80000 && Nat.ble k 64 with
      | true => some (.txt (.rep d), h)
      | false => none))
  | none => none
def same (d : SD) : SD → Bool := SD.rec (motive_1 := fun _ => SD → Bool) (motive_2 := fun _ => List SD → Bool)
  (fun e => match e with
    | .non => true
    | _ => false)
  (fun a e => match e with
    | .bl b => a == b
    | _ => false)
  (fun a e => match e with
    | .int b => ieq a b
    | _ => false)
  (fun k a c e => match e with
    | .sym k' a' c' => Nat.beq k k' && (ieq a a' && ieq c c')
    | _ => false)
  (fun x e => match e with
    | .str y => leq x y
    | _ => false)
  (fun _ ih e => match e with
    | .rep e => ih e
    | _ => false)
  (fun _ _ ia ib e => match e with
    | .cat c d => ia c && ib d
    | _ => false)
  (fun _ ih e => match e with
    | .lst ys => ih ys
    | _ => false)
  (fun _ ih e => match e with
    | .tup ys => ih ys
    | _ => false)
  (fun _ _ ia ib e => match e with
    | .dct ls us => ia ls && ib us
    | _ => false)
  (fun e => match e with
    | [] => true
    | _ => false)
  (fun _ _ ia ib e => match e with
    | [] => false
    | y :: ys => ia y && ib ys)
  d
def deepEqC (h : AH) (x y : W) : Option Bool := match rd 60 h x with
  | none => none
  | some d => (match rd 60 h y with
    | none => none
    | some e => (match d.fit with
      | none => none
      | some (_, k) => (match e.fit with
        | none => none
        | some (_, k') => (match Nat.ble k 64 && Nat.ble k' 64 with
          | true => sdEq d e
          | false => none))))
def small (i : Int) : Bool := Nat.blt i.natAbs 1048576
def deepEq (h : AH) (x y : W) : Option Bool := match x with
  | .int i => (match y with
    | .int j => (match small i && small j with
      | true => some (ieq i j)
      | false => deepEqC h x y)
    | _ => deepEqC h x y)
  | _ => deepEqC h x y
def wsame : W → W → Bool
  | .non, e => (match e with
    | .non => true
    | _ => false)
  | .bl a, e => (match e with
    | .bl b => a == b
    | _ => false)
  | .int a, e => (match e with
    | .int b => ieq a b
    | _ => false)
  | .sym k a c, e => (match e with
    | .sym k' a' c' => Nat.beq k k' && (ieq a a' && ieq c c')
    | _ => false)
  | .txt x, e => (match e with
    | .txt y => same x y
    | _ => false)
  | _, _ => false
def keq : Sum Int (List Nat) → Sum Int (List Nat) → Bool
  | .inl i, .inl j => ieq i j
  | .inr i, .inr j => leq i j
  | _, _ => false
def dsame : List (Sum Int (List Nat) × W) → List (Sum Int (List Nat) × W) → Bool
  | [], [] => true
  | (k, v) :: r, (k', v') :: r' => keq k k' && (wsame v v' && dsame r r')
  | _, _ => false
def knodup : List (Sum Int (List Nat) × W) → Bool
  | [] => true
  | (k, _) :: r => !(r.any fun p => keq k p.1) && knodup r
def txtOk : SD → Bool
  | .str x => x.all fun c => Nat.blt c 1114112
  | .rep (.dct [] []) => true
  | .rep d => (match d.fit with
    | some _ => true
    | none => false)
  | _ => false
def txtSame : List W → List W → Bool
  | [], [] => true
  | .txt d :: r, .txt e :: t => same d e && (txtOk d && txtSame r t)
  | _, _ => false
def txtEq (h : AH) (x y : W) : Option Bool := match x with
  | .ref l => (match h.get l with
    | some (.lst xs) => (match y with
      | .ref l2 => (match h.get l2 with
        | some (.lst ys) => (match txtSame xs ys with
          | true => some true
          | false => none)
        | _ => none)
      | _ => none)
    | _ => none)
  | _ => none
def eqX (h : AH) (x y : W) : Option Bool := match deepEq h x y with
  | some b => some b
  | none => txtEq h x y
def eqB (h : AH) (x y : W) : Option Bool := match x with
  | .txt d => (match y with
    | .txt e => (match same d e with
      | true => some true
      | false => deepEq h x y)
    | _ => deepEq h x y)
  | .ref l => (match h.get l with
    | some (.dct ks) => (match y with
      | .ref l2 => (match h.get l2 with
        | some (.dct ls) => (match knodup ks && dsame ks ls with
          | true => some true
          | false => none)
        | _ => none)
      | _ => none)
    | _ => eqX h x y)
  | _ => deepEq h x y
def lenB (h : AH) (x y : W) : Option Bool := match x with
  | .ref l => (match y with
    | .ref l2 => (match h.get l with
      | some (.lst xs) => (match h.get l2 with
        | some (.lst ys) => (match Nat.beq xs.length ys.length with
          | true => none
          | false => some false)
        | _ => none)
      | _ => none)
    | _ => none)
  | _ => none
def eqL (h : AH) (x y : W) : Option Bool := match eqB h x y with
  | some b => some b
  | none => lenB h x y
def oEq : Op2 := fun x y h => match eqL h x y with
  | some b => some (.bl b, h)
  | none => none
def oNe : Op2 := fun x y h => match eqL h x y with
  | some b => some (.bl (!b), h)
  | none => none
def fitR (d : SD) : Bool := match d.fit with
  | none => false
  | some (w, k) => Nat.ble w 80000 && Nat.ble k 64
def dkey : Sum Int (List Nat) → SD
  | .inl i => .int i
  | .inr x => .str x
def flatD : W → Option SD
  | .non => some .non
  | .bl b => some (.bl b)
  | .int i => some (.int i)
  | .sym k a c => some (.sym k a c)
  | .txt (.str x) => some (.str x)
  | _ => none
def rdd (h : AH) : W → Option SD
  | .ref l => (match h.get l with
    | some (.dct ks) => (match rds flatD (ks.map (·.2)) with
      | some vs => some (.dct (ks.map fun p => dkey p.1) vs)
      | none => none)
    | _ => none)
  | _ => none
def oRepr : OpN := fun xs h => match xs with
  | [x] => (match rd 60 h x with
    | some d => (match fitR d with
      | true => some (.txt (.rep d), h)
      | false => none)
    | none => (match rdd h x with
      | some (.dct ks vs) => (match SD.fits ks with
        | none => none
        | some (w, k) => (match SD.fits vs with
          | none => none
          | some (w', k') => (match Nat.ble (w + w') 80000 && (Nat.ble k 50 && Nat.ble k' 50) with
            | true => some (.txt (.rep (.dct ks vs)), h)
            | false => none)))
      | _ => (match x with
        | .ref l => reprE h (.ref l)
        | _ => none)))
  | _ => none
def mMk (c : Nat) (ge : EM) : Sl → AH → Res (Nat × Loc) := fun σ h => (ge σ h).bind fun v h1 => .ok (c, h1.n) (h1.new (.xd v))
def excOf (h : AH) : W → Option Nat
  | .ref l => (match h.get l with
    | some (.exc c _) => some c
    | some (.exn c) => some c
    | _ => none)
  | _ => none
def memN (a : Nat) : List Nat → Bool
  | [] => false
  | b :: r => (match Nat.beq a b with
    | true => true
    | false => memN a r)
def oIsX (n : Nat) (anc : Nat → List Nat) : OpN := fun xs h => match xs with
  | [x, .glo b] => (match excOf h x with
    | some a => (match Nat.blt a n && Nat.blt b n with
      | true => some (.bl (memN b (anc a)), h)
      | false => none)
    | none => none)
  | [x, .ty .verr] => (match excOf h x with
    | some a => (match Nat.blt a n with
      | true => some (.bl true, h)
      | false => none)
    | none => none)
  | [x, .ty t] => (match kind h x with
    | some k => some (.bl (k.isT t), h)
    | none => none)
  | _ => none
def oVal (n : Nat) : Op1 := fun x h => match x with
  | .ref l => (match h.get l with
    | some (.exc c d) => (match Nat.blt c n with
      | true => (match h.get d with
        | some (.xd v) => some (v, h)
        | _ => none)
      | false => none)
    | _ => none)
  | _ => none
def eD0 : EM := fun _ h => .ok (.ref h.n) (h.new (.dct []))
def creps (x : List Nat) : Nat → List Nat
  | 0 => []
  | n + 1 => x ++ creps x n
def oMulS : Op2 := fun x y h => match x, y with
  | .txt (.str a), .int (.ofNat n) => (match Nat.ble n 1000 && Nat.ble a.length 1000 with
    | true => some (.txt (.str (creps a n)), h)
    | false => none)
  | _, _ => oMul x y h
def chk (r : Res W) : Bool := match r with
  | .ok (.bl true) _ => true
  | _ => false
def anyEq (d : SD) : List SD → Option Bool
  | [] => some false
  | e :: r => (match sdEq e d with
    | some true => some true
    | some false => anyEq d r
    | none => (match anyEq d r with
      | some true => some true
      | _ => none))
def inBC (h : AH) (x y : W) : Option Bool := match rd 60 h x with
  | none => none
  | some d => (match rd 60 h y with
    | some (.lst es) => (match d.fit with
      | none => none
      | some (_, k) => (match (SD.lst es).fit with
        | none => none
        | some (_, k') => (match Nat.ble k 64 && Nat.ble k' 64 with
          | true => anyEq d es
          | false => none)))
    | _ => none)
def anyIF (i : Int) (l : List W) : Option Bool := List.rec (motive := fun _ => Option Bool) (some false) (fun x _ ih => match x with
    | .int j => (match small j with
      | true => (match ih with
        | some b => some (ieq j i || b)
        | none => none)
      | false => none)
    | _ => none) l
def inB (h : AH) (x y : W) : Option Bool := match x with
  | .int i => (match small i with
    | true => (match y with
      | .ref l => (match h.get l with
        | some (.lst xs) => (match anyIF i xs with
          | some b => some b
          | none => inBC h x y)
        | _ => inBC h x y)
      | _ => inBC h x y)
    | false => inBC h x y)
  | _ => inBC h x y
def sTry (tb : SM) (hit : Nat → Option Bool) (i : Nat) (su : SM) : SM := fun σ h => match tb σ h with
  | .exc c d σ' h' => (match hit c with
    | some true => (match su (sput σ' i (some (.ref h'.n))) (h'.new (.exc c d)) with
      | .nx σ2 h2 => .nx (sput σ2 i none) h2
      | .bk σ2 h2 => .bk (sput σ2 i none) h2
      | .ct σ2 h2 => .ct (sput σ2 i none) h2
      | .rt v h2 => .rt v h2
      | _ => .no)
    | some false => .exc c d σ' h'
    | none => .no)
  | r => r
def hitC (n : Nat) (anc : Nat → List Nat) (t : Nat) (c : Nat) : Option Bool := match Nat.blt c n with
  | true => some (memN t (anc c))
  | false => none
def callMk (n kk : Nat) (b : Nat → SM) : Fn := fun vs h => callM n kk (b h.k) vs ⟨h.n, h.k + 1, h.s, h.t⟩
def eLam (i : Nat) (act : Option Nat) : EM := fun _ h => .ok (.ref h.n) (h.new (.lam i act))
def valCall (gt : Nat → Option Fn) (L : Lm) (v : W) (xs : List W) (h2 : AH) : Res W := match v with
  | .glo g => (match gt g with
    | some fn => fn xs h2
    | none => .no)
  | .ref l => (match h2.get l with
    | some (.lam i act) => (match L i act with
      | some fn => fn xs h2
      | none => .no)
    | _ => .no)
  | _ => .no
def eCallV (gt : Nat → Option Fn) (L : Lm) (e : EM) (es : List EM) : EM := fun σ h => (e σ h).bind fun v h1 => (evs es σ h1).bind fun xs h2 => valCall gt L v xs h2
def eCallL (fn : Lm → Fn) (Lx : Sl → Lm) (es : List EM) : EM := fun σ h => (evs es σ h).bind fun xs h1 => fn (Lx σ) xs h1
def lamFn (np : Nat) (b : EM) (cap : Sl) : Fn := fun vs h => match Nat.beq vs.length np with
  | true => b (vs.map some ++ cap) h
  | false => .no
def ext (L : Lm) (a : Nat) (t : Nat → Option Fn) : Lm := fun i act => match act with
  | some q => (match Nat.beq q a with
    | true => t i
    | false => L i (some q))
  | none => L i none
def capS (js : List Nat) (σ : Sl) : Sl := js.map (sget σ)
def L0 (t : Nat → Option Fn) : Lm := fun i act => match act with
  | none => t i
  | some _ => none
def sPar3 (i j l : Nat) (a b c : EM) : SM := fun σ h => (a σ h).toSR σ fun u h1 => (b σ h1).toSR σ fun v h2 => (c σ h2).toSR σ fun w h3 => .nx (sput (sput (sput σ i (some u)) j (some v)) l (some w)) h3
def insG (le : α → α → Bool) (a : α) : List α → List α
  | [] => [a]
  | b :: r => match le a b with
    | true => a :: b :: r
    | false => b :: insG le a r
def isG (le : α → α → Bool) : List α → List α
  | [] => []
  | a :: r => insG le a (isG le r)
mutual
def SD.toks : SD → Option (List Int)
  | .non => some []
  | .int i => some [i]
  | .bl b => some [match b with | true => 1 | false => 0]
  | .lst xs => SD.tokss xs
  | .tup xs => SD.tokss xs
  | _ => none
def SD.tokss : List SD → Option (List Int)
  | [] => some [0]
  | x :: r => match SD.toks x with
    | none => none
    | some a => match SD.tokss r with
      | none => none
      | some b => some (1 :: (a ++ b))
def SD.alk : SD → SD → Bool
  | .non, .non => true
  | .bl _, .bl _ => true
  | .int _, .int _ => true
  | .lst xs, .lst ys => SD.alks xs ys
  | .tup xs, .tup ys => SD.alks xs ys
  | _, _ => false
def SD.alks : List SD → List SD → Bool
  | x :: xs, y :: ys => match SD.alk x y with
    | true => SD.alks xs ys
    | false => false
  | [], _ => true
  | _ :: _, [] => true
end
def lexI : List Int → List Int → Bool
  | [], [] => false
  | [], _ :: _ => true
  | _ :: _, [] => false
  | x :: r, y :: t => match ilt x y with
    | true => true
    | false => match ilt y x with
      | true => false
      | false => lexI r t
abbrev SIt := SD × List Int × W
def leI (a b : SIt) : Bool := !lexI b.2.1 a.2.1
def sIts (h : AH) : List W → Option (List SIt)
  | [] => some []
  | w :: r => match rd 60 h w with
    | none => none
    | some d => match d.toks with
      | none => none
      | some k => match sIts h r with
        | none => none
        | some l => some ((d, k, w) :: l)
def allAlk (l : List SIt) : Bool := l.all fun a => l.all fun b => SD.alk a.1 b.1
def isTup1 : SD → Bool
  | .tup (_ :: _) => true
  | _ => false
def isLst : SD → Bool
  | .lst _ => true
  | .int _ => true
  | _ => false
def sortB (l : List SIt) : Bool := (l.all fun a => isTup1 a.1) || (l.all fun a => isLst a.1)
def dpB (l : List SIt) : Bool := match SD.fits (l.map (·.1)) with
  | some (_, k) => Nat.ble k 60
  | none => false
def oSortD : OpN := fun xs h => match xs with
  | [x] => (match lst? h x with
    | none => none
    | some ys => (match wints ys with
      | some is => some (.ref h.n, h.new (.lst ((isort is).map W.int)))
      | none => (match sIts h ys with
        | none => none
        | some l => (match allAlk l && (sortB l && dpB l) with
          | true => some (.ref h.n, h.new (.lst ((isG leI l).map fun p => p.2.2)))
          | false => none))))
  | _ => none
def fstD : SD → SD → Bool
  | .tup (x :: _), .tup (y :: _) => SD.alk x y && (match sdEq x y with
    | some false => true
    | _ => false)
  | _, _ => false
def isTupL : SD → Bool
  | .tup (.lst _ :: _) => true
  | _ => false
def allAlk2 (l : List SIt) : Bool := l.all fun a => l.all fun b => SD.alk a.1 b.1 || fstD a.1 b.1
def refW (h : AH) : W → Bool
  | .ref l => !isAli (h.get l)
  | _ => false
def oSortD2 : OpN := fun xs h => match oSortD xs h with
  | some r => some r
  | none => (match xs with
    | [x] => (match lst? h x with
      | none => none
      | some ys => (match sIts h ys with
        | none => none
        | some l => (match (l.all fun a => isTupL a.1 && refW h a.2.2) && (allAlk2 l && dpB l) with
          | true => some (.ref h.n, h.new (.lst ((isG leI l).map fun p => p.2.2)))
          | false => none)))
    | _ => none)
def findI (k : Int) : List Int → Option Nat
  | [] => none
  | x :: r => match ieq x k with
    | true => some 0
    | false => match findI k r with
      | some j => some (j + 1)
      | none => none
def oIndex : Op2 := fun a b h => match lst? h a, b with
  | some ws, .int k => (match wints ws with
    | some is => (match findI k is with
      | some j => some (.int j, h)
      | none => none)
    | none => none)
  | _, _ => none
def lcIn (J : MIt) (t : Tg) (c : CM) (e : EM) (d : Loc) (σ : Sl) (k : AH → Res W) : Nat → Nat → AH → Res W
  | 0, _, _ => .no
  | f + 1, i, h => match J.next i h with
    | .no => .no
    | .stop => k h
    | .yld x h1 => match t.put x σ h1 with
      | none => .no
      | some σ1 => match c σ1 h1 with
        | .ok false h2 => lcIn J t c e d σ k f (i + 1) h2
        | .ok true h2 => (match e σ1 h2 with
          | .ok y h3 => (match h3.get d with
            | some (.lst acc) => (match Nat.blt acc.length 1000000 with
              | true => lcIn J t c e d σ k f (i + 1) (h3.put d (.lst (acc ++ [y])))
              | false => .no)
            | _ => .no)
          | _ => .no)
        | _ => .no
def lcOut (J : MIt) (t : Tg) (c : CM) (it1 : IM) (t1 : Tg) (own1 : List Nat) (c1 : CM) (e : EM) (d : Loc) (σ : Sl) : Nat → Nat → AH → Res W
  | 0, _, _ => .no
  | f + 1, i, h => match J.next i h with
    | .no => .no
    | .stop => .ok (.ref d) h
    | .yld x h1 => match t.put x σ h1 with
      | none => .no
      | some σ1 => match c σ1 h1 with
        | .ok false h2 => lcOut J t c it1 t1 own1 c1 e d σ f (i + 1) h2
        | .ok true h2 => (match it1 σ1 h2 with
          | .ok J1 h3 => lcIn J1 t1 c1 e d (swipe σ1 own1) (fun h => lcOut J t c it1 t1 own1 c1 e d σ f (i + 1) h) 1000001 0 h3
          | _ => .no)
        | _ => .no
def eLc2 (it : IM) (t : Tg) (own : List Nat) (c : CM) (it1 : IM) (t1 : Tg) (own1 : List Nat) (c1 : CM) (e : EM) : EM := fun σ h => (it σ h).bind fun J h1 => lcOut J t c it1 t1 own1 c1 e h1.n (swipe σ own) 1000001 0 (h1.new (.lst []))
def oLen2 : OpN := fun xs h => match xs with
  | [.ref l] => (match h.get l with
    | some (.set ys) => (match Nat.blt ys.length 4000 with
      | true => some (.int ys.length, h)
      | false => none)
    | _ => oLen xs h)
  | _ => oLen xs h
def nleq : List Nat → List Nat → Bool
  | [], [] => true
  | a :: r, b :: t => Nat.beq a b && nleq r t
  | _, _ => false
def weq (a b : W) : Bool := match a with
  | .non => (match b with | .non => true | _ => false)
  | .bl x => (match b with | .bl y => (match x, y with | true, true => true | false, false => true | _, _ => false) | _ => false)
  | .int i => (match b with | .int j => ieq i j | _ => false)
  | .sym k x c => (match b with | .sym k2 x2 c2 => Nat.beq k k2 && (ieq x x2 && ieq c c2) | _ => false)
  | .txt (.str x) => (match b with | .txt (.str y) => nleq x y | _ => false)
  | .ref l => (match b with | .ref q => Nat.beq l q | _ => false)
  | .glo l => (match b with | .glo q => Nat.beq l q | _ => false)
  | .raw l => (match b with | .raw q => Nat.beq l q | _ => false)
  | .scr => (match b with | .scr => true | _ => false)
  | _ => false
def wseq : List W → List W → Bool
  | [], [] => true
  | a :: r, b :: t => weq a b && wseq r t
  | _, _ => false
def ileq : List Int → List Int → Bool
  | [], [] => true
  | a :: r, b :: t => ieq a b && ileq r t
  | _, _ => false
def kveq : List (Sum Int (List Nat) × W) → List (Sum Int (List Nat) × W) → Bool
  | [], [] => true
  | (.inl i, a) :: r, (.inl j, b) :: t => ieq i j && (weq a b && kveq r t)
  | (.inr i, a) :: r, (.inr j, b) :: t => nleq i j && (weq a b && kveq r t)
  | _, _ => false
def kteq : List (List Int × W) → List (List Int × W) → Bool
  | [], [] => true
  | (k, w) :: r, (k2, w2) :: r2 => ileq k k2 && (weq w w2 && kteq r r2)
  | _, _ => false
def oeq : Option Nat → Option Nat → Bool
  | none, none => true
  | some a, some b => Nat.beq a b
  | _, _ => false
def ceq (a b : Cell) : Bool := match a with
  | .lst x => (match b with | .lst y => wseq x y | _ => false)
  | .tup x => (match b with | .tup y => wseq x y | _ => false)
  | .dct x => (match b with | .dct y => kveq x y | _ => false)
  | .set x => (match b with | .set y => ileq x y | _ => false)
  | .xd x => (match b with | .xd y => weq x y | _ => false)
  | .exc c d => (match b with | .exc c2 d2 => Nat.beq c c2 && Nat.beq d d2 | _ => false)
  | .exn c => (match b with | .exn c2 => Nat.beq c c2 | _ => false)
  | .lam i x => (match b with | .lam j y => Nat.beq i j && oeq x y | _ => false)
  | .dtp x => (match b with | .dtp y => kteq x y | _ => false)
  | .ali x => (match b with | .ali y => wseq x y | _ => false)
def sameUp (t t1 : Tr) : Nat → Bool
  | 0 => true
  | k + 1 => match t.get k with
    | some c => (match t1.get k with
      | some d => (match ceq c d with
        | true => sameUp t t1 k
        | false => false)
      | none => false)
    | none => false
def atomW : W → Bool
  | .non => true
  | .bl _ => true
  | .int _ => true
  | .sym _ _ _ => true
  | .txt _ => true
  | _ => false
def atomsW : List W → Bool
  | [] => true
  | a :: r => atomW a && atomsW r
def fnD (f : Fn) : Fn := fun ws h => match f ws h with
  | .ok v h1 => (match atomW v && sameUp h.t h1.t h.n with
    | true => .ok v h
    | false => (match v with
      | .ref l => (match h1.get l with
        | some (.lst xs) => (match Nat.ble h.n l && (atomsW xs && sameUp h.t h1.t h.n) with
          | true => .ok (.ref h.n) (h.new (.lst xs))
          | false => .ok v h1)
        | _ => .ok v h1)
      | _ => .ok v h1))
  | r => r
def cutL (f : Lm → Fn) : Lm → Fn := fun L => fnD (f L)
def oModS : Op2 := fun x y h => match x with
  | .sym _ a c => (match y with
    | .int j => (match ilt 0 j && ieq (a % j) 0 with
      | true => some (.int (c % j), h)
      | false => none)
    | _ => none)
  | _ => oMod x y h
def inBT (h : AH) (x y : W) : Option Bool := match rd 60 h x with
  | none => none
  | some d => (match rd 60 h y with
    | some (.tup es) => (match d.fit with
      | none => none
      | some (_, k) => (match (SD.tup es).fit with
        | none => none
        | some (_, k') => (match Nat.ble k 64 && Nat.ble k' 64 with
          | true => anyEq d es
          | false => none)))
    | _ => none)
def oInS : Op2 := fun x y h => match inB h x y with
  | some b => some (.bl b, h)
  | none => (match inBT h x y with
    | some b => some (.bl b, h)
    | none => none)
def oNotInS : Op2 := fun x y h => match inB h x y with
  | some b => some (.bl (!b), h)
  | none => (match inBT h x y with
    | some b => some (.bl (!b), h)
    | none => none)
def sPre (g : Sl → AH → Option Sl) (b : SM) : SM := fun s h => match g s h with
  | some s' => b s' h
  | none => .no
abbrev DKey := Sum Int (List Nat)
def keyQ (k : Int) : DKey → Bool
  | .inl i => ieq i k
  | .inr _ => false
def atI (k : Int) : List (DKey × W) → Option W
  | [] => none
  | (k', w) :: r => match keyQ k k' with
    | true => some w
    | false => atI k r
def putI0 (k : Int) (w : W) : List (DKey × W) → List (DKey × W)
  | [] => []
  | (k', u) :: r => match keyQ k k' with
    | true => (k', w) :: putI0 k w r
    | false => (k', u) :: putI0 k w r
def putI (k : Int) (w : W) (kvs : List (DKey × W)) : List (DKey × W) := match atI k kvs with
  | some _ => putI0 k w kvs
  | none => kvs ++ [(.inl k, w)]
def isDI (h : AH) : W → Bool
  | .ref l => (match h.get l with
    | some (.dct _) => true
    | _ => false)
  | _ => false
def oDIget (x y z : W) (h : AH) : Option (W × AH) := match x with
  | .ref l => (match h.get l with
    | some (.dct kvs) => (match y with
      | .int k => (match atI k kvs with
        | some w => some (w, h)
        | none => some (z, h))
      | _ => none)
    | _ => none)
  | _ => none
def eDIget (a b c : EM) : EM := fun σ h => (a σ h).bind fun x h1 => match isDI h1 x with
  | true => (b σ h1).bind fun y h2 => (c σ h2).bind fun z h3 => ofO (oDIget x y z h3)
  | false => .no
def oDIset (o i v : W) (h : AH) : Option AH := match o with
  | .ref l => (match h.get l with
    | some (.dct kvs) => (match i with
      | .int k => (match Nat.blt kvs.length 1000000 with
        | true => some (h.put l (.dct (putI k v kvs)))
        | false => none)
      | _ => none)
    | _ => none)
  | _ => none
def dcLoop (J : MIt) (t : Tg) (own : List Nat) (c : CM) (ek ev : EM) (d : Loc) (σ : Sl) : Nat → Nat → AH → Res W
  | 0, _, _ => .no
  | f + 1, i, h => match J.next i h with
    | .no => .no
    | .stop => .ok (.ref d) h
    | .yld x h1 => match t.put x σ h1 with
      | none => .no
      | some σ1 => match c σ1 h1 with
        | .ok false h2 => dcLoop J t own c ek ev d σ f (i + 1) h2
        | .ok true h2 => (match ek σ1 h2 with
          | .ok y h3 => (match ev σ1 h3 with
            | .ok z h4 => (match y with
              | .int k => (match h4.get d with
                | some (.dct acc) => (match Nat.blt acc.length 1000000 with
                  | true => dcLoop J t own c ek ev d σ f (i + 1) (h4.put d (.dct (putI k z acc)))
                  | false => .no)
                | _ => .no)
              | _ => .no)
            | _ => .no)
          | _ => .no)
        | _ => .no
def eDc (it : IM) (t : Tg) (own : List Nat) (c : CM) (ek ev : EM) : EM := fun σ h => (it σ h).bind fun J h1 => dcLoop J t own c ek ev h1.n (swipe σ own) 1000001 0 (h1.new (.dct []))
def kItsC (kvs : List (DKey × W)) : List W → Option (List SIt)
  | [] => some []
  | w :: r => match w with
    | .int a => (match atI a kvs with
      | some (.int n) => (match kItsC kvs r with
        | none => none
        | some l => some ((.int (0 - n), [0 - n], .int a) :: l))
      | _ => none)
    | _ => none
def oSortC (dw : Option W) : Op1 := fun x h => match dw with
  | some (.ref D) => (match h.get D with
    | some (.dct kvs) => (match lst? h x with
      | none => none
      | some ys => match kItsC kvs ys with
        | none => none
        | some l => match allAlk l && (sortB l && dpB l) with
          | true => some (.ref h.n, h.new (.lst ((isG leI l).map fun p => p.2.2)))
          | false => none)
    | _ => none)
  | _ => none
def eSortC (i : Nat) (g : EM) : EM := fun σ h => (g σ h).bind fun x h1 => ofO (oSortC (sget σ i) x h1)
def tup2? (h : AH) : W → Option (W × W)
  | .ref l => (match h.get l with
    | some (.tup [a, b]) => some (a, b)
    | _ => none)
  | _ => none
def sSub2 (f : W → W → W → AH → Option AH) (ge o1 i1 o2 i2 : EM) : SM := fun σ h => (ge σ h).toSR σ fun w h1 => match tup2? h1 w with
  | none => .no
  | some p => (o1 σ h1).toSR σ fun a h2 => (i1 σ h2).toSR σ fun b h3 => match f a b p.1 h3 with
    | none => .no
    | some h4 => (o2 σ h4).toSR σ fun c h5 => (i2 σ h5).toSR σ fun d h6 => match f c d p.2 h6 with
      | none => .no
      | some h7 => .nx σ h7
def oMinT : OpN := fun xs h => match oMinL xs h with
  | some r => some r
  | none => (match xs with
    | [x] => (match lst? h x with
      | some [w] => (match rd 60 h w with
        | some (.tup ds) => (match SD.alk (.tup ds) (.tup ds) && dpB [(.tup ds, [], w)] with
          | true => some (w, h)
          | false => none)
        | _ => none)
      | _ => none)
    | _ => none)
def nC : Nat := 6
def anc : Nat → List Nat
  | 0 => [0]
  | 1 => [1, 0]
  | 2 => [2, 0]
  | 3 => [3, 0]
  | 4 => [4, 0]
  | 5 => [5, 0]
  | _ => []
def gk0 {α : Type} : List α → List α → List α
  | [], [b0] => [b0]
  | _, _ => []
def gk1 {α : Type} : List α → List α → List α
  | [], [b0, b1, b2] => [b2, b1, b0]
  | _, _ => []
def gk2 {α : Type} : List α → List α → List α
  | [], [b0] => [b0]
  | _, _ => []
def gk3 {α : Type} : List α → List α → List α
  | [], [b0, b1] => [b1, b0]
  | _, _ => []
def gk4 {α : Type} : List α → List α → List α
  | [], [b0, b1] => [b1, b0]
  | _, _ => []
def gk5 {α : Type} : List α → List α → List α
  | [], [b0, b1] => [b1, b0]
  | _, _ => []
def gk6 {α : Type} : List α → List α → List α
  | [], [b0, b1] => [b1, b0]
  | _, _ => []
def gk7 {α : Type} : List α → List α → List α
  | [], [b0, b1] => [b1, b0]
  | _, _ => []
def gk8 {α : Type} : List α → List α → List α
  | [], [b0, b1, b2] => [b2, b1, b0]
  | _, _ => []
def gk9 {α : Type} : List α → List α → List α
  | [], [b0] => [b0]
  | _, _ => []
def gk10 {α : Type} : List α → List α → List α
  | [], [b0] => [b0]
  | _, _ => []
def gk11 {α : Type} : List α → List α → List α
  | [], [b0] => [b0]
  | _, _ => []
def gk12 {α : Type} : List α → List α → List α
  | [], [b0, b1] => [b1, b0]
  | _, _ => []
def gk13 {α : Type} : List α → List α → List α
  | [], [b0, b1] => [b1, b0]
  | _, _ => []
def gk14 {α : Type} : List α → List α → List α
  | [], [b0, b1] => [b1, b0]
  | _, _ => []
def gk15 {α : Type} : List α → List α → List α
  | [], [b0] => [b0]
  | _, _ => []
def m_is_whole : SM := sRet (eAnd (eOpN (oIsX nC anc) [eVar 0, eC (.ty .int)]) (eNot (eOpN (oIsX nC anc) [eVar 0, eC (.ty .bool)])))
def f_is_whole : Fn := callM 1 1 (m_is_whole)
def m_is_between : SM := sSeq (sIf (cNot (cVal (eCall f_is_whole [eVar 0]))) (sRet (eC (.bl false))) (sNx)) (sRet (eAnd (eOr (eOp2 oIs (eVar 1) (eC .non)) (eOp2 oGe (eVar 0) (eVar 1))) (eOr (eOp2 oIs (eVar 2) (eC .non)) (eOp2 oLe (eVar 0) (eVar 2)))))
def f_is_between : Fn := callM 3 3 (m_is_between)
def m_are_ties : SM := sSeq (sIf (cOr (cNot (cVal (eOpN (oIsX nC anc) [eVar 2, eC (.ty .list)]))) (cVal (eOp2 oNe (eOpN oLen2 [eVar 2]) (eVar 1)))) (sRet (eC (.bl false))) (sNx)) (sRet (eOp2 oEq (eLc (iSeq (eVar 2)) (.nm 3) [3] (cNot (cVal (eCall f_is_between [eVar 3, eC (.int 0), eOp2 oSub (eVar 0) (eC (.int 1))]))) (eVar 3)) (eOpN mkLst [])))
def f_are_ties : Fn := callM 4 3 (m_are_ties)
def m_is_company_value : SM := sSeq (sIf (cOr (cNot (cVal (eOpN (oIsX nC anc) [eVar 1, eC (.ty .list)]))) (cNot (cVal (eChain oLe oLe (eC (.int 1)) (eOpN oLen2 [eVar 1]) (eC (.int 40)))))) (sRet (eC (.bl false))) (sNx)) (sRet (eOp2 oEq (eLc (iEnu (eVar 1)) (.tp [2, 3]) [2, 3] (cNot (cVal (eCall f_are_ties [eVar 0, eVar 2, eVar 3]))) (eVar 2)) (eOpN mkLst [])))
def f_is_company_value : Fn := callM 4 2 (m_is_company_value)
def m_is_league_value : SM := sRet (eCall f_is_company_value [eC (.int 2), eVar 0])
def f_is_league_value : Fn := callM 1 1 (m_is_league_value)
def m_check_league : SM := sIf (cNot (cVal (eCall f_is_league_value [eVar 0]))) (sRaise (mMk 4 (eVar 0))) (sNx)
def f_check_league : Fn := callM 1 1 (m_check_league)
def m_won : SM := sRet (eIf (cVal (eOp2 oGt (eVar 1) (eVar 2))) (eOp2 oEq (eOp2 oIx (eOp2 oIx (eVar 0) (eVar 1)) (eVar 2)) (eC (.int 1))) (eOp2 oEq (eOp2 oIx (eOp2 oIx (eVar 0) (eVar 2)) (eVar 1)) (eC (.int 0))))
def f_won : Fn := callM 3 3 (m_won)
def m_are_alike : SM := sSeq (sSet 3 (eLc (iRng1 (eOpN oLen2 [eVar 0])) (.nm 4) [4] (cVal (eOp2 oNotInS (eVar 4) (eOpN mkTup [eVar 1, eVar 2]))) (eVar 4))) (sRet (eOp2 oEq (eLc (iSeq (eVar 3)) (.nm 4) [4] (cVal (eOp2 oNe (eCall f_won [eVar 0, eVar 4, eVar 1]) (eCall f_won [eVar 0, eVar 4, eVar 2]))) (eVar 4)) (eOpN mkLst [])))
def f_are_alike : Fn := callM 5 3 (m_are_alike)
def m_alike_in : SM := sSeq (sSet 1 (eOpN mkLst [])) (sSeq (sFor (iRng1 (eOpN oLen2 [eVar 0])) (.nm 2) (sSet 1 (eOp2 oAdd (eVar 1) (eLc (iRng2 (eOp2 oAdd (eVar 2) (eC (.int 1))) (eOpN oLen2 [eVar 0])) (.nm 3) [3] (cVal (eCall f_are_alike [eVar 0, eVar 2, eVar 3])) (eOpN mkTup [eVar 2, eVar 3]))))) (sRet (eVar 1)))
def f_alike_in : Fn := callM 4 1 (m_alike_in)
def m_runs_of : SM := sSeq (sSet 1 (eLc (iRng1 (eOpN oLen2 [eVar 0])) (.nm 2) [2] (cYes) (eOpN mkLst [eVar 2]))) (sSeq (sFor (iSeq (eCall f_alike_in [eVar 0])) (.tp [3, 4]) (sSeq (sSet 5 (eLc (iSeq (eVar 1)) (.nm 6) [6] (cOr (cVal (eOp2 oInS (eVar 3) (eVar 6))) (cVal (eOp2 oInS (eVar 4) (eVar 6)))) (eVar 6))) (sSet 1 (eOp2 oAdd (eLc (iSeq (eVar 1)) (.nm 6) [6] (cVal (eOp2 oNotInS (eVar 6) (eVar 5))) (eVar 6)) (eOpN mkLst [eOpN oSortD2 [eLc2 (iSeq (eVar 5)) (.nm 6) [6, 2] (cYes) (iSeq (eVar 6)) (.nm 2) [2] (cYes) (eVar 2)]]))))) (sSeq (sSet 7 (eOpN mkLst [])) (sSeq (sFor (iSeq (eOpN oSortD2 [eLc (iSeq (eVar 1)) (.nm 6) [6] (cVal (eOp2 oGt (eOpN oLen2 [eVar 6]) (eC (.int 1)))) (eVar 6)])) (.nm 6) (sSeq (sSet 8 (eDc (iSeq (eVar 6)) (.nm 2) [2] (cYes) (eVar 2) (eOpN oLen2 [eLc (iSeq (eVar 6)) (.nm 9) [9] (cAnd (cVal (eOp2 oNe (eVar 9) (eVar 2))) (cVal (eCall f_won [eVar 0, eVar 2, eVar 9]))) (eVar 9)]))) (sDrop (eMeth isL oAppend (eVar 7) (eSortC 8 (eVar 6)))))) (sRet (eVar 7)))))
def f_runs_of : Fn := callM 10 1 (m_runs_of)
def m_runs : SM := sSeq (sDrop (eCall f_check_league [eVar 0])) (sRet (eCall f_runs_of [eVar 0]))
def f_runs : Fn := callM 1 1 (m_runs)
def m_factorial_of : SM := sSeq (sSet 1 (eC (.int 1))) (sSeq (sFor (iRng2 (eC (.int 1)) (eOp2 oAdd (eVar 0) (eC (.int 1)))) (.nm 2) (sSet 1 (eOp2 oMulS (eVar 1) (eVar 2)))) (sRet (eVar 1)))
def f_factorial_of : Fn := callM 3 1 (m_factorial_of)
def m_size_of : SM := sSeq (sSet 1 (eC (.int 1))) (sSeq (sFor (iSeq (eCall f_runs_of [eVar 0])) (.nm 2) (sSet 1 (eOp2 oMulS (eVar 1) (eCall f_factorial_of [eOpN oLen2 [eVar 2]])))) (sRet (eVar 1)))
def f_size_of : Fn := callM 3 1 (m_size_of)
def m_league_class_size : SM := sSeq (sDrop (eCall f_check_league [eVar 0])) (sRet (eCall f_size_of [eVar 0]))
def f_league_class_size : Fn := callM 1 1 (m_league_class_size)
def m_product_of : SM := sSeq (sSet 2 (eOp2 oMulS (eOpN mkLst [eC (.int 0)]) (eOp2 oSub (eOp2 oAdd (eOpN oLen2 [eVar 0]) (eOpN oLen2 [eVar 1])) (eC (.int 1))))) (sSeq (sFor (iEnu (eVar 0)) (.tp [3, 4]) (sFor (iEnu (eVar 1)) (.tp [5, 6]) (sSub oSetIx (eOp2 oAdd (eOp2 oIx (eVar 2) (eOp2 oAdd (eVar 3) (eVar 5))) (eOp2 oMulS (eVar 4) (eVar 6))) (eVar 2) (eOp2 oAdd (eVar 3) (eVar 5))))) (sRet (eVar 2)))
def f_product_of : Fn := callM 7 2 (m_product_of)
def m_leagues_by_turns : SM := sSeq (sDrop (eCall f_check_league [eVar 0])) (sSeq (sSet 1 (eOpN mkLst [eC (.int 1)])) (sSeq (sFor (iSeq (eCall f_runs_of [eVar 0])) (.nm 2) (sFor (iRng2 (eC (.int 2)) (eOp2 oAdd (eOpN oLen2 [eVar 2]) (eC (.int 1)))) (.nm 3) (sSet 1 (eCall f_product_of [eVar 1, eOp2 oMulS (eOpN mkLst [eC (.int 1)]) (eVar 3)])))) (sRet (eVar 1))))
def f_leagues_by_turns : Fn := callM 4 1 (m_leagues_by_turns)
def m_steps_of : SM := sSeq (sSet 1 (eOpN mkLst [])) (sSeq (sFor (iSeq (eCall f_runs_of [eVar 0])) (.nm 2) (sFor (iSeq (eVar 2)) (.nm 3) (sIf (cVal (eOp2 oNe (eVar 3) (eOpN oMinL [eVar 2]))) (sDrop (eMeth isL oAppend (eVar 1) (eOpN mkTup [eVar 3, eLc (iSeq (eOpN oSortD2 [eVar 2])) (.nm 4) [4] (cVal (eOp2 oLt (eVar 4) (eVar 3))) (eVar 4)]))) (sNx)))) (sRet (eOpN oSortD2 [eVar 1])))
def f_steps_of : Fn := callM 5 1 (m_steps_of)
def m_laid_rows : SM := sSeq (sSet 2 (eOpN mkLst [])) (sSeq (sFor (iRng1 (eOp2 oAdd (eOpN oLen2 [eVar 0]) (eC (.int 1)))) (.nm 3) (sSeq (sSet 4 (eLc (iEnu (eVar 0)) (.tp [5, 6]) [5, 6] (cYes) (eOpN mkTup [eVar 6, eIf (cVal (eOp2 oGe (eVar 5) (eVar 3))) (eC (.int 1)) (eC (.int 0))]))) (sDrop (eMeth isL oAppend (eVar 2) (eOpN mkTup [eOpN oSortD2 [eVar 4], eVar 3]))))) (sRet (eOpN oSortD2 [eVar 2])))
def f_laid_rows : Fn := callM 7 2 (m_laid_rows)
def m_league_number : SM := sSeq (sDrop (eCall f_check_league [eVar 0])) (sSeq (sPar 1 2 (eC (.int 0)) (eD0)) (sSeq (sFor (iSeq (eCall f_steps_of [eVar 0])) (.tp [3, 4]) (sSeq (sSet 5 (eDIget (eVar 2) (eOp2 oIx (eVar 4) (eC (.int 0))) (eOpN mkLst [eOp2 oIx (eVar 4) (eC (.int 0))]))) (sSeq (sSet 6 (eOpN oLen2 [eLc (iSeq (eVar 5)) (.nm 7) [7] (cVal (eCall f_won [eVar 0, eVar 7, eVar 3])) (eVar 7)])) (sSeq (sSet 1 (eOp2 oAdd (eOp2 oMulS (eVar 1) (eOp2 oAdd (eOpN oLen2 [eVar 4]) (eC (.int 1)))) (eMeth isL oIndex (eLc (iSeq (eCall f_laid_rows [eVar 5, eVar 3])) (.tp [8, 9]) [8, 9] (cYes) (eVar 9)) (eVar 6)))) (sSub oDIset (eOp2 oAdd (eOp2 oAdd (eCut (eVar 5) (oNone) (oSome (eVar 6))) (eOpN mkLst [eVar 3])) (eCut (eVar 5) (oSome (eVar 6)) (oNone))) (eVar 2) (eOp2 oIx (eVar 4) (eC (.int 0)))))))) (sRet (eVar 1))))
def f_league_number : Fn := callM 10 1 (m_league_number)
def m_check_two : SM := sSeq (sDrop (eCall f_check_league [eVar 0])) (sSeq (sIf (cNot (cVal (eCall f_is_league_value [eVar 1]))) (sRaise (mMk 4 (eVar 1))) (sNx)) (sIf (cVal (eOp2 oNe (eOpN oLen2 [eVar 0]) (eOpN oLen2 [eVar 1]))) (sRaise (mMk 5 (eVar 1))) (sNx)))
def f_check_two : Fn := callM 2 2 (m_check_two)
def m_couples_of : SM := sSeq (sSet 1 (eOpN mkLst [])) (sSeq (sFor (iRng1 (eOpN oLen2 [eVar 0])) (.nm 2) (sSet 1 (eOp2 oAdd (eVar 1) (eLc (iRng2 (eOp2 oAdd (eVar 2) (eC (.int 1))) (eOpN oLen2 [eVar 0])) (.nm 3) [3] (cYes) (eOpN mkTup [eVar 2, eVar 3]))))) (sRet (eVar 1)))
def f_couples_of : Fn := callM 4 1 (m_couples_of)
def m_unlike_results : SM := sRet (eLc (iSeq (eCall f_couples_of [eVar 0])) (.nm 2) [2] (cVal (eOp2 oNe (eOp2 oIx (eOp2 oIx (eVar 0) (eOp2 oIx (eVar 2) (eC (.int 1)))) (eOp2 oIx (eVar 2) (eC (.int 0)))) (eOp2 oIx (eOp2 oIx (eVar 1) (eOp2 oIx (eVar 2) (eC (.int 1)))) (eOp2 oIx (eVar 2) (eC (.int 0)))))) (eVar 2))
def f_unlike_results : Fn := callM 3 2 (m_unlike_results)
def m_are_joined_of : SM := sSeq (sSet 2 (eLc (iSeq (eCall f_runs_of [eVar 0])) (.nm 3) [3] (cYes) (eOpN oSortD2 [eVar 3]))) (sSeq (sIf (cVal (eOp2 oNe (eVar 2) (eLc (iSeq (eCall f_runs_of [eVar 1])) (.nm 3) [3] (cYes) (eOpN oSortD2 [eVar 3])))) (sRet (eC (.bl false))) (sNx)) (sSeq (sFor (iSeq (eCall f_unlike_results [eVar 0, eVar 1])) (.tp [4, 5]) (sIf (cVal (eOp2 oEq (eLc (iSeq (eVar 2)) (.nm 6) [6] (cAnd (cVal (eOp2 oInS (eVar 4) (eVar 6))) (cVal (eOp2 oInS (eVar 5) (eVar 6)))) (eVar 6)) (eOpN mkLst []))) (sRet (eC (.bl false))) (sNx))) (sRet (eC (.bl true)))))
def f_are_joined_of : Fn := callM 7 2 (m_are_joined_of)
def m_are_joined_leagues : SM := sSeq (sDrop (eCall f_check_two [eVar 0, eVar 1])) (sRet (eCall f_are_joined_of [eVar 0, eVar 1]))
def f_are_joined_leagues : Fn := callM 2 2 (m_are_joined_leagues)
def m_lots_of : SM := sSeq (sSet 2 (eOpN mkLst [eOpN mkLst []])) (sSeq (sFor (iRng1 (eVar 1)) (.nm 3) (sSet 2 (eLc2 (iSeq (eVar 2)) (.nm 4) [4, 5] (cYes) (iRng2 (eIf (cVal (eOp2 oNe (eVar 4) (eOpN mkLst []))) (eOp2 oAdd (eOp2 oIx (eVar 4) (eOp1 oNeg (eC (.int 1)))) (eC (.int 1))) (eC (.int 0))) (eVar 0)) (.nm 5) [5] (cYes) (eOp2 oAdd (eVar 4) (eOpN mkLst [eVar 5]))))) (sRet (eVar 2)))
def f_lots_of : Fn := callM 6 2 (m_lots_of)
def m_tie_of : SM := sRet (eOp2 oIx (eOp2 oIx (eVar 0) (eOpN oMax2 [eVar 1, eVar 2])) (eOpN oMin2 [eVar 1, eVar 2]))
def f_tie_of : Fn := callM 3 3 (m_tie_of)
def m_among_of : SM := sRet (eLc (iEnu (eVar 1)) (.tp [3, 4]) [3, 4] (cYes) (eLc (iSeq (eCut (eVar 1) (oNone) (oSome (eVar 3)))) (.nm 2) [2] (cYes) (eCall f_tie_of [eVar 0, eVar 4, eVar 2])))
def f_among_of : Fn := callM 5 2 (m_among_of)
def m_parting_people : SM := sSeq (sDrop (eCall f_check_two [eVar 0, eVar 1])) (sSeq (sIf (cVal (eCall f_are_joined_of [eVar 0, eVar 1])) (sRet (eC .non)) (sNx)) (sSeq (sSet 2 (eD0)) (sSeq (sFor (iSeq (eOpN mkTup [eC (.int 3), eC (.int 4)])) (.nm 3) (sFor (iSeq (eCall f_lots_of [eOpN oLen2 [eVar 0], eVar 3])) (.nm 4) (sSeq (sSet 5 (eOpN mkTup [eCall f_among_of [eVar 0, eVar 4], eCall f_among_of [eVar 1, eVar 4]])) (sSeq (sIf (cVal (eOp2 oNotInS (eOpN oRepr [eVar 5]) (eVar 2))) (sSub oSetIx (eCall f_are_joined_of [eOp2 oIx (eVar 5) (eC (.int 0)), eOp2 oIx (eVar 5) (eC (.int 1))]) (eVar 2) (eOpN oRepr [eVar 5])) (sNx)) (sIf (cNot (cVal (eOp2 oIx (eVar 2) (eOpN oRepr [eVar 5])))) (sRet (eVar 4)) (sNx)))))) (sRet (eC .non)))))
def f_parting_people : Fn := callM 6 2 (m_parting_people)
def m_league_turns : SM := sSeq (sDrop (eCall f_check_two [eVar 0, eVar 1])) (sRet (eIf (cVal (eCall f_are_joined_of [eVar 0, eVar 1])) (eOpN oLen2 [eCall f_unlike_results [eVar 0, eVar 1]]) (eC .non)))
def f_league_turns : Fn := callM 2 2 (m_league_turns)
def m_league_road : SM := sSeq (sDrop (eCall f_check_two [eVar 0, eVar 1])) (sSeq (sIf (cNot (cVal (eCall f_are_joined_of [eVar 0, eVar 1]))) (sRet (eC .non)) (sNx)) (sSeq (sPar 2 3 (eCall f_runs_of [eVar 0]) (eOpN mkLst [])) (sSeq (sFor (iRng1 (eOpN oLen2 [eCall f_unlike_results [eVar 0, eVar 1]])) (.nm 4) (sSeq (sSet 5 (eOpN mkLst [])) (sSeq (sFor (iEnu (eVar 2)) (.tp [6, 7]) (sFor (iRng1 (eOp2 oSub (eOpN oLen2 [eVar 7]) (eC (.int 1)))) (.nm 8) (sIf (cVal (eCall f_won [eVar 1, eOp2 oIx (eVar 7) (eOp2 oAdd (eVar 8) (eC (.int 1))), eOp2 oIx (eVar 7) (eVar 8)])) (sDrop (eMeth isL oAppend (eVar 5) (eOpN mkTup [eOpN oMinT [eCut (eVar 7) (oSome (eVar 8)) (oSome (eOp2 oAdd (eVar 8) (eC (.int 2))))], eOpN oMaxL [eCut (eVar 7) (oSome (eVar 8)) (oSome (eOp2 oAdd (eVar 8) (eC (.int 2))))], eVar 6, eVar 8]))) (sNx)))) (sSeq (sTgt (.tp [9, 10, 6, 8]) (eOpN oMinT [eVar 5])) (sSeq (sDrop (eMeth isL oAppend (eVar 3) (eOpN mkTup [eVar 9, eVar 10]))) (sSub2 oSetIx (eOpN mkTup [eOp2 oIx (eOp2 oIx (eVar 2) (eVar 6)) (eOp2 oAdd (eVar 8) (eC (.int 1))), eOp2 oIx (eOp2 oIx (eVar 2) (eVar 6)) (eVar 8)]) (eOp2 oIx (eVar 2) (eVar 6)) (eVar 8) (eOp2 oIx (eVar 2) (eVar 6)) (eOp2 oAdd (eVar 8) (eC (.int 1))))))))) (sRet (eVar 3)))))
def f_league_road : Fn := callM 11 2 (m_league_road)
def m_league_couples : SM := sSeq (sDrop (eCall f_check_league [eVar 0])) (sRet (eCall f_alike_in [eVar 0]))
def f_league_couples : Fn := callM 1 1 (m_league_couples)
def m_is_person : SM := sRet (eCall f_is_between [eVar 1, eC (.int 0), eOp2 oSub (eOpN oLen2 [eVar 0]) (eC (.int 1))])
def f_is_person : Fn := callM 2 2 (m_is_person)
def m_check_person : SM := sIf (cNot (cVal (eCall f_is_person [eVar 0, eVar 1]))) (sRaise (mMk 2 (eVar 1))) (sNx)
def f_check_person : Fn := callM 2 2 (m_check_person)
def m_beats : SM := sSeq (sDrop (eCall f_check_league [eVar 0])) (sSeq (sDrop (eCall f_check_person [eVar 0, eVar 1])) (sSeq (sIf (cOr (cNot (cVal (eCall f_is_person [eVar 0, eVar 2]))) (cVal (eOp2 oEq (eVar 2) (eVar 1)))) (sRaise (mMk 2 (eVar 2))) (sNx)) (sRet (eCall f_won [eVar 0, eVar 1, eVar 2]))))
def f_beats : Fn := callM 3 3 (m_beats)
def m_kept_rows : SM := sRet (eLc (iSeq (eVar 0)) (.nm 1) [1] (cYes) (eOpN oList [eVar 1]))
def f_kept_rows : Fn := callM 2 1 (m_kept_rows)
def m_turned_of : SM := sSeq (sSet 2 (eCall f_kept_rows [eVar 0])) (sSeq (sSub oSetIx (eOp2 oSub (eC (.int 1)) (eOp2 oIx (eOp2 oIx (eVar 2) (eOp2 oIx (eVar 1) (eC (.int 1)))) (eOp2 oIx (eVar 1) (eC (.int 0))))) (eOp2 oIx (eVar 2) (eOp2 oIx (eVar 1) (eC (.int 1)))) (eOp2 oIx (eVar 1) (eC (.int 0)))) (sRet (eVar 2)))
def f_turned_of : Fn := callM 3 2 (m_turned_of)
def m_is_couple : SM := sSeq (sIf (cOr (cNot (cVal (eOpN (oIsX nC anc) [eVar 1, eC (.ty .tuple)]))) (cOr (cVal (eOp2 oNe (eOpN oLen2 [eVar 1]) (eC (.int 2)))) (cNot (cVal (eCall f_is_person [eVar 0, eOp2 oIx (eVar 1) (eC (.int 0))]))))) (sRet (eC (.bl false))) (sNx)) (sRet (eAnd (eCall f_is_person [eVar 0, eOp2 oIx (eVar 1) (eC (.int 1))]) (eOp2 oLt (eOp2 oIx (eVar 1) (eC (.int 0))) (eOp2 oIx (eVar 1) (eC (.int 1))))))
def f_is_couple : Fn := callM 2 2 (m_is_couple)
def m_turned : SM := sSeq (sDrop (eCall f_check_league [eVar 0])) (sSeq (sIf (cOr (cNot (cVal (eCall f_is_couple [eVar 0, eVar 1]))) (cNot (cVal (eCall f_are_alike [eVar 0, eOp2 oIx (eVar 1) (eC (.int 0)), eOp2 oIx (eVar 1) (eC (.int 1))])))) (sRaise (mMk 3 (eVar 1))) (sNx)) (sRet (eCall f_turned_of [eVar 0, eVar 1])))
def f_turned : Fn := callM 2 2 (m_turned)
def m_check_couple : SM := sIf (cNot (cVal (eCall f_is_couple [eVar 0, eVar 1]))) (sRaise (mMk 3 (eVar 1))) (sNx)
def f_check_couple : Fn := callM 2 2 (m_check_couple)
def m_is_sure_result : SM := sSeq (sDrop (eCall f_check_league [eVar 0])) (sSeq (sDrop (eCall f_check_couple [eVar 0, eVar 1])) (sRet (eOp2 oEq (eLc (iSeq (eCall f_runs_of [eVar 0])) (.nm 2) [2] (cAnd (cVal (eOp2 oInS (eOp2 oIx (eVar 1) (eC (.int 0))) (eVar 2))) (cVal (eOp2 oInS (eOp2 oIx (eVar 1) (eC (.int 1))) (eVar 2)))) (eVar 2)) (eOpN mkLst []))))
def f_is_sure_result : Fn := callM 3 2 (m_is_sure_result)
def m_lots_with : SM := sSeq (sSet 3 (eLc (iRng1 (eVar 1)) (.nm 4) [4] (cVal (eOp2 oNotInS (eVar 4) (eVar 0))) (eVar 4))) (sSeq (sSet 5 (eOpN mkLst [eOpN mkLst []])) (sSeq (sFor (iRng1 (eOp2 oSub (eVar 2) (eC (.int 2)))) (.nm 6) (sSet 5 (eLc2 (iSeq (eVar 5)) (.nm 7) [7, 4] (cYes) (iSeq (eVar 3)) (.nm 4) [4] (cOr (cVal (eOp2 oEq (eVar 7) (eOpN mkLst []))) (cVal (eOp2 oGt (eVar 4) (eOp2 oIx (eVar 7) (eOp1 oNeg (eC (.int 1))))))) (eOp2 oAdd (eVar 7) (eOpN mkLst [eVar 4]))))) (sRet (eOpN oSortD2 [eLc (iSeq (eVar 5)) (.nm 7) [7] (cYes) (eOpN oSortD2 [eOp2 oAdd (eVar 7) (eOpN oList [eVar 0])])]))))
def f_lots_with : Fn := callM 8 3 (m_lots_with)
def m_sure_people : SM := sSeq (sDrop (eCall f_check_league [eVar 0])) (sSeq (sDrop (eCall f_check_couple [eVar 0, eVar 1])) (sSeq (sIf (cVal (eOp2 oNe (eLc (iSeq (eCall f_runs_of [eVar 0])) (.nm 2) [2] (cAnd (cVal (eOp2 oInS (eOp2 oIx (eVar 1) (eC (.int 0))) (eVar 2))) (cVal (eOp2 oInS (eOp2 oIx (eVar 1) (eC (.int 1))) (eVar 2)))) (eVar 2)) (eOpN mkLst []))) (sRet (eC .non)) (sNx)) (sSeq (sFor (iSeq (eOpN mkTup [eC (.int 3), eC (.int 4), eC (.int 5)])) (.nm 3) (sFor (iSeq (eCall f_lots_with [eVar 1, eOpN oLen2 [eVar 0], eVar 3])) (.nm 4) (sSeq (sTgt (.tp [5, 6]) (eOpN mkTup [eMeth isL oIndex (eVar 4) (eOp2 oIx (eVar 1) (eC (.int 0))), eMeth isL oIndex (eVar 4) (eOp2 oIx (eVar 1) (eC (.int 1)))])) (sIf (cVal (eOp2 oEq (eLc (iSeq (eCall f_runs_of [eCall f_among_of [eVar 0, eVar 4]])) (.nm 2) [2] (cAnd (cVal (eOp2 oInS (eVar 5) (eVar 2))) (cVal (eOp2 oInS (eVar 6) (eVar 2)))) (eVar 2)) (eOpN mkLst []))) (sRet (eVar 4)) (sNx))))) (sRet (eC .non)))))
def f_sure_people : Fn := callM 7 2 (m_sure_people)
def m_check_number : SM := sIf (cNot (cVal (eCall f_is_between [eVar 0, eVar 1, eVar 2]))) (sRaise (mMk 1 (eVar 0))) (sNx)
def f_check_number : Fn := callM 3 3 (m_check_number)
def m_league_at : SM := sSeq (sDrop (eCall f_check_league [eVar 0])) (sSeq (sDrop (eCall f_check_number [eVar 1, eC (.int 0), eOp2 oSub (eCall f_size_of [eVar 0]) (eC (.int 1))])) (sSeq (sPar3 2 3 4 (eCall f_kept_rows [eVar 0]) (eCall f_size_of [eVar 0]) (eD0)) (sSeq (sFor (iSeq (eCall f_steps_of [eVar 0])) (.tp [5, 6]) (sSeq (sSet 3 (eOp2 oFdiv (eVar 3) (eOp2 oAdd (eOpN oLen2 [eVar 6]) (eC (.int 1))))) (sSeq (sSet 7 (eDIget (eVar 4) (eOp2 oIx (eVar 6) (eC (.int 0))) (eOpN mkLst [eOp2 oIx (eVar 6) (eC (.int 0))]))) (sSeq (sTgt (.tp [8, 9]) (eOp2 oIx (eCall f_laid_rows [eVar 7, eVar 5]) (eOp2 oFdiv (eVar 1) (eVar 3)))) (sSeq (sSet 1 (eOp2 oModS (eVar 1) (eVar 3))) (sSeq (sSub oDIset (eOp2 oAdd (eOp2 oAdd (eCut (eVar 7) (oNone) (oSome (eVar 9))) (eOpN mkLst [eVar 5])) (eCut (eVar 7) (oSome (eVar 9)) (oNone))) (eVar 4) (eOp2 oIx (eVar 6) (eC (.int 0)))) (sFor (iSeq (eVar 8)) (.tp [10, 11]) (sSub oSetIx (eVar 11) (eOp2 oIx (eVar 2) (eVar 5)) (eVar 10))))))))) (sRet (eVar 2)))))
def f_league_at : Fn := callM 12 2 (m_league_at)
def m_is_league_road : SM := sSeq (sDrop (eCall f_check_two [eVar 0, eVar 1])) (sSeq (sIf (cNot (cVal (eOpN (oIsX nC anc) [eVar 2, eC (.ty .list)]))) (sRet (eC (.bl false))) (sNx)) (sSeq (sSet 3 (eVar 0)) (sSeq (sFor (iSeq (eVar 2)) (.nm 4) (sSeq (sIf (cOr (cNot (cVal (eCall f_is_couple [eVar 3, eVar 4]))) (cNot (cVal (eCall f_are_alike [eVar 3, eOp2 oIx (eVar 4) (eC (.int 0)), eOp2 oIx (eVar 4) (eC (.int 1))])))) (sRet (eC (.bl false))) (sNx)) (sSet 3 (eCall f_turned_of [eVar 3, eVar 4])))) (sRet (eOp2 oEq (eVar 3) (eVar 1))))))
def f_is_league_road : Fn := callM 5 3 (m_is_league_road)
def m_is_league : SM := sRet (eCall f_is_league_value [eVar 0])
def f_is_league : Fn := callM 1 1 (m_is_league)
def m__law_named_right : SM := sSeq (sPar 0 1 (eOpN mkLst [eOpN mkLst [], eOpN mkLst [eC (.int 0)]]) (eOpN mkLst [eOpN mkLst [], eOpN mkLst [eC (.int 1)]])) (sSeq (sSet 2 (eOpN mkLst [eCallK f_is_league gk0 [] [eVar 0], eCallK f_beats gk1 [] [eC (.int 1), eC (.int 0), eVar 0], eCallK f_league_couples gk2 [] [eVar 0], eCallK f_turned gk3 [] [eOpN mkTup [eC (.int 0), eC (.int 1)], eVar 0]])) (sSeq (sSet 2 (eOp2 oAdd (eVar 2) (eOpN mkLst [eCallK f_are_joined_leagues gk4 [] [eVar 1, eVar 0], eCallK f_parting_people gk5 [] [eVar 1, eVar 0], eCallK f_league_turns gk6 [] [eVar 1, eVar 0]]))) (sSeq (sSet 2 (eOp2 oAdd (eVar 2) (eOpN mkLst [eCallK f_league_road gk7 [] [eVar 1, eVar 0], eCallK f_is_league_road gk8 [] [eOpN mkLst [eOpN mkTup [eC (.int 0), eC (.int 1)]], eVar 1, eVar 0], eCallK f_runs gk9 [] [eVar 1]]))) (sSeq (sSet 2 (eOp2 oAdd (eVar 2) (eOpN mkLst [eCallK f_league_class_size gk10 [] [eVar 0], eCallK f_leagues_by_turns gk11 [] [eVar 0], eCallK f_is_sure_result gk12 [] [eOpN mkTup [eC (.int 0), eC (.int 1)], eVar 0], eCallK f_sure_people gk13 [] [eOpN mkTup [eC (.int 0), eC (.int 1)], eVar 0]]))) (sSeq (sSet 2 (eOp2 oAdd (eVar 2) (eOpN mkLst [eCallK f_league_at gk14 [] [eC (.int 1), eVar 0], eCallK f_league_number gk15 [] [eVar 1]]))) (sRet (eOp2 oEq (eOpN oRepr [eVar 2]) (eOpN oRepr [eOpN mkLst [eC (.bl true), eC (.bl true), eOpN mkLst [eOpN mkTup [eC (.int 0), eC (.int 1)]], eVar 1, eC (.bl true), eC .non, eC (.int 1), eOpN mkLst [eOpN mkTup [eC (.int 0), eC (.int 1)]], eC (.bl true), eOpN mkLst [eOpN mkLst [eC (.int 1), eC (.int 0)]], eC (.int 2), eOpN mkLst [eC (.int 1), eC (.int 1)], eC (.bl false), eC .non, eVar 1, eC (.int 1)]]))))))))
def f__law_named_right : Fn := callM 3 0 (m__law_named_right)
def gt : Nat → Option Fn
  | 6 => some f_runs
  | 7 => some f_league_class_size
  | 8 => some f_leagues_by_turns
  | 9 => some f_league_number
  | 10 => some f_are_joined_leagues
  | 11 => some f_parting_people
  | 12 => some f_league_turns
  | 13 => some f_league_road
  | _ => none
def b_lam0 : EM := eCall f_league_couples [eVar 0]
def b_lam2 : EM := eCall f_beats [eVar 0, eC .non, eC .non]
def b_lam3 : EM := eCall f_turned [eVar 0, eC .non]
def b_lam4 : EM := eCall f_is_sure_result [eVar 0, eC .non]
def b_lam5 : EM := eCall f_sure_people [eVar 0, eC .non]
def b_lam6 : EM := eCall f_league_at [eVar 0, eC .non]
def b_lam9 : EM := eCall f_is_league_road [eVar 0, eC .non, eC .non]
def b_lam10 : EM := eCall f_is_league_road [eOpN mkLst [eOpN mkLst []], eVar 0, eC .non]
def b_lam11 : EM := eCall f_beats [eVar 0, eVar 1, eC .non]
def b_lam12 : EM := eCall f_beats [eVar 0, eC (.int 0), eVar 1]
def b_lam13 : EM := eCall f_beats [eVar 0, eC (.int 1), eC (.int 1)]
def b_lam14 : EM := eCall f_beats [eOpN mkLst [eOpN mkLst []], eC (.int 0), eC (.int 0)]
def b_lam15 : EM := eCall f_turned [eVar 0, eVar 1]
def b_lam16 : EM := eCall f_is_sure_result [eVar 0, eVar 1]
def b_lam17 : EM := eCall f_sure_people [eVar 0, eVar 1]
def b_lam18 : EM := eCall f_turned [eVar 0, eOpN mkTup [eC (.int 0), eC (.int 2)]]
def b_lam19 : EM := eCall f_turned [eVar 0, eOpN mkTup [eC (.int 0), eC (.int 1)]]
def b_lam20 : EM := eCall f_league_at [eVar 0, eVar 1]
def b_lam21 : EM := eCall f_league_at [eVar 0, eC (.int 1)]
def b_lam22 : EM := eCall f_league_at [eOpN mkLst [eOpN mkLst []], eC (.int 1)]
def b_lam24 : EM := eCall f_is_league_road [eVar 0, eVar 1, eC .non]
def b_lam25 : EM := eCall f_runs [eVar 0]
def b_lam26 : EM := eCall f_league_turns [eOpN mkLst [eOpN mkLst []], eVar 0]
def b_lam27 : EM := eCall f_turned [eOpN mkLst [eOpN mkLst [], eOpN mkLst [eC (.int 0)]], eVar 0]
def b_lam28 : EM := eCall f_league_at [eOpN mkLst [eOpN mkLst []], eVar 0]
def b_lam29 : EM := eCall f_beats [eOpN mkLst [eOpN mkLst [], eOpN mkLst [eC (.int 0)]], eC (.int 0), eVar 0]
def lt0 : Nat → Option Fn
  | 14 => some (lamFn 0 b_lam14 [])
  | 22 => some (lamFn 0 b_lam22 [])
  | 25 => some (lamFn 1 b_lam25 [])
  | 26 => some (lamFn 1 b_lam26 [])
  | 27 => some (lamFn 1 b_lam27 [])
  | 28 => some (lamFn 1 b_lam28 [])
  | 29 => some (lamFn 1 b_lam29 [])
  | _ => none
def b_lam1 : EM := eCallV gt (L0 lt0) (eVar 0) [eVar 1]
def b_lam7 : EM := eCallV gt (L0 lt0) (eVar 0) [eVar 1, eC .non]
def b_lam8 : EM := eCallV gt (L0 lt0) (eVar 0) [eOpN mkLst [eOpN mkLst []], eVar 1]
def b_lam23 : EM := eCallV gt (L0 lt0) (eVar 0) [eVar 1, eVar 2]
def ltab__law_leagues_right (sl : Sl) : Nat → Option Fn
  | 0 => some (lamFn 0 b_lam0 (capS [4] sl))
  | 1 => some (lamFn 0 b_lam1 (capS [6, 4] sl))
  | 2 => some (lamFn 0 b_lam2 (capS [4] sl))
  | 3 => some (lamFn 0 b_lam3 (capS [4] sl))
  | 4 => some (lamFn 0 b_lam4 (capS [4] sl))
  | 5 => some (lamFn 0 b_lam5 (capS [4] sl))
  | 6 => some (lamFn 0 b_lam6 (capS [4] sl))
  | 7 => some (lamFn 0 b_lam7 (capS [6, 4] sl))
  | 8 => some (lamFn 0 b_lam8 (capS [6, 4] sl))
  | 9 => some (lamFn 0 b_lam9 (capS [4] sl))
  | 10 => some (lamFn 0 b_lam10 (capS [4] sl))
  | _ => none
def ltab__law_rest_right (sl : Sl) : Nat → Option Fn
  | 11 => some (lamFn 0 b_lam11 (capS [2, 4] sl))
  | 12 => some (lamFn 0 b_lam12 (capS [2, 4] sl))
  | 13 => some (lamFn 0 b_lam13 (capS [2] sl))
  | 15 => some (lamFn 0 b_lam15 (capS [2, 4] sl))
  | 16 => some (lamFn 0 b_lam16 (capS [2, 4] sl))
  | 17 => some (lamFn 0 b_lam17 (capS [2, 4] sl))
  | 18 => some (lamFn 0 b_lam18 (capS [2] sl))
  | 19 => some (lamFn 0 b_lam19 (capS [3] sl))
  | 20 => some (lamFn 0 b_lam20 (capS [2, 4] sl))
  | 21 => some (lamFn 0 b_lam21 (capS [3] sl))
  | 23 => some (lamFn 0 b_lam23 (capS [6, 2, 4] sl))
  | 24 => some (lamFn 0 b_lam24 (capS [2, 4] sl))
  | _ => none
def m_pre1 : SM := sSet 1 (eOp2 oAdd (eLc (iSeq (eCut (eVar 0) (oNone) (oSome (eC (.int 2))))) (.nm 2) [2] (cYes) (eOpN oInt [eVar 2])) (eOpN mkLst [eC (.int 0), eC (.int 1)]))
def m_pre2 : SM := sPar 3 4 (eOp2 oSub (eOp2 oSub (eC (.int 0)) (eC (.int 1))) (eOp2 oModS (eOpN oInt [eOp2 oIx (eVar 1) (eC (.int 0))]) (eOp2 oPow (eC (.int 10)) (eC (.int 29))))) (eOp2 oModS (eOpN oInt [eOp2 oIx (eVar 1) (eC (.int 1))]) (eOp2 oPow (eC (.int 10)) (eC (.int 29))))
def gcells : Sl → AH → Option Sl := fun s h => match s, h with
  | [some .scr, none, none, none, none], ⟨0, _, _, .lf⟩ => some [some .scr, none, none, some (.sym 0 (-1) (-1)), some (.sym 1 1 0)]
  | _, _ => none
def m__law_caught (L : Lm) : SM := sSeq (sSet 1 (eC .non)) (sSeq (sTry (sDrop (eCallV gt L (eVar 0) [])) (hitC nC anc 0) 2 (sSet 1 (eVar 2))) (sSeq (sSet 3 (eOpN mkLst [eOpN (oIsX nC anc) [eVar 1, eC (.glo 4)], eOpN (oIsX nC anc) [eVar 1, eC (.glo 2)], eOpN (oIsX nC anc) [eVar 1, eC (.glo 3)]])) (sSeq (sSet 3 (eOp2 oAdd (eVar 3) (eOpN mkLst [eOpN (oIsX nC anc) [eVar 1, eC (.glo 1)], eOpN (oIsX nC anc) [eVar 1, eC (.glo 5)], eOpN (oIsX nC anc) [eVar 1, eC (.ty .verr)]]))) (sSeq (sFor (iEnu (eOpN mkLst [eC (.txt (.str [108, 101, 97, 103, 117, 101])), eC (.txt (.str [112, 101, 114, 115, 111, 110])), eC (.txt (.str [99, 111, 117, 112, 108, 101])), eC (.txt (.str [110, 117, 109, 98, 101, 114])), eC (.txt (.str [117, 110, 108, 105, 107, 101]))])) (.tp [4, 5]) (sIf (cVal (eOp2 oEq (eVar 3) (eLc (iRng1 (eC (.int 6))) (.nm 6) [6] (cYes) (eOp2 oInS (eVar 6) (eOpN mkTup [eVar 4, eC (.int 5)]))))) (sRet (eOpN mkLst [eVar 5, eOpN oRepr [eOp1 (oVal nC) (eVar 1)]])) (sNx))) (sRet (eOpN mkLst [eC (.txt (.str [110, 111, 110, 101])), eC (.txt (.str []))]))))))
def f__law_caught (L : Lm) : Fn := callM 7 1 (m__law_caught L)
def m__law_all (L : Lm) : SM := sSeq (sSet 3 (eOpN mkLst [eVar 0, eOpN oRepr [eVar 1]])) (sRet (eAnd (eOp2 oEq (eLc (iSeq (eVar 2)) (.nm 4) [4] (cVal (eOp2 oNe (eCallL f__law_caught (fun _ => L) [eVar 4]) (eVar 3))) (eVar 4)) (eOpN mkLst [])) (eOp2 oEq (eOpN oRepr [eVar 1]) (eOp2 oIx (eVar 3) (eC (.int 1))))))
def f__law_all (L : Lm) : Fn := callM 5 3 (m__law_all L)
def m__law_leagues_right (L : Lm) (a : Nat) : SM := sSeq (sSet 2 (eOpN mkLst [eC .non, eC (.int 7), eOpN mkLst [], eC (.txt (.str [108, 101, 97, 103, 117, 101])), eOpN mkTup [eOpN mkLst []], eOpN mkLst [eOpN mkTup []], eOpN mkLst [eOpN mkLst [eC (.int 0)]], eOpN mkLst [eOpN mkLst [], eOpN mkLst []], eOpN mkLst [eOpN mkLst [], eOpN mkLst [eC (.int 2)]], eOpN mkLst [eOpN mkLst [], eOpN mkLst [eOp1 oNeg (eC (.int 1))]], eOpN mkLst [eOpN mkLst [], eOpN mkLst [eVar 0]], eOpN mkLst [eOpN mkLst [], eOpN mkLst [eOp2 oAdd (eVar 1) (eC (.int 2))]], eOpN mkLst [eOpN mkLst [], eOpN mkLst [eC (.bl true)]], eOpN mkLst [eOpN mkLst [], eOpN mkLst [eC .non]]])) (sSeq (sSet 2 (eOp2 oAdd (eVar 2) (eOpN mkLst [eOpN mkLst [eOpN mkLst [], eOpN mkLst [eC (.int 0)], eOpN mkLst [eC (.int 0)]], eOpN mkLst [eOpN mkLst [], eOpN mkLst [eC (.int 0)], eOpN mkLst [eC (.int 0), eC (.int 0), eC (.int 0)]], eOpN mkLst [eOpN mkLst [], eOpN mkLst [eC (.int 0)], eOpN mkLst [eC (.int 0), eC (.txt (.str [48]))]], eOpN mkLst [eOpN mkLst [], eOpN mkTup [eC (.int 0)]], eOpN mkLst [eOpN mkLst [], eOpN mkLst [eC (.int 0)], eC .non], eD0, eLc (iRng1 (eC (.int 41))) (.nm 3) [3] (cYes) (eOp2 oMulS (eOpN mkLst [eC (.int 0)]) (eVar 3))]))) (sSeq (sFor (iSeq (eVar 2)) (.nm 4) (sSeq (sSet 5 (eOpN mkLst [eLam 0 (some a)])) (sSeq (sFor (iSeq (eOpN mkLst [eC (.glo 6), eC (.glo 7), eC (.glo 8), eC (.glo 9)])) (.nm 6) (sIf (cNot (cVal (eCallL f__law_all (fun sl => ext L a (ltab__law_leagues_right sl)) [eC (.txt (.str [108, 101, 97, 103, 117, 101])), eVar 4, eOpN mkLst [eLam 1 (some a)]]))) (sRet (eC (.bl false))) (sNx))) (sSeq (sDrop (eMeth isL oAppend (eVar 5) (eLam 2 (some a)))) (sSeq (sDrop (eMeth isL oAppend (eVar 5) (eLam 3 (some a)))) (sSeq (sDrop (eMeth isL oAppend (eVar 5) (eLam 4 (some a)))) (sSeq (sDrop (eMeth isL oAppend (eVar 5) (eLam 5 (some a)))) (sSeq (sDrop (eMeth isL oAppend (eVar 5) (eLam 6 (some a)))) (sSeq (sFor (iSeq (eOpN mkLst [eC (.glo 10), eC (.glo 11), eC (.glo 12), eC (.glo 13)])) (.nm 6) (sSeq (sIf (cNot (cVal (eCallL f__law_all (fun sl => ext L a (ltab__law_leagues_right sl)) [eC (.txt (.str [108, 101, 97, 103, 117, 101])), eVar 4, eOpN mkLst [eLam 7 (some a)]]))) (sRet (eC (.bl false))) (sNx)) (sIf (cNot (cVal (eCallL f__law_all (fun sl => ext L a (ltab__law_leagues_right sl)) [eC (.txt (.str [108, 101, 97, 103, 117, 101])), eVar 4, eOpN mkLst [eLam 8 (some a)]]))) (sRet (eC (.bl false))) (sNx)))) (sSeq (sDrop (eMeth isL oAppend (eVar 5) (eLam 9 (some a)))) (sSeq (sDrop (eMeth isL oAppend (eVar 5) (eLam 10 (some a)))) (sIf (cOr (cNot (cVal (eCallL f__law_all (fun sl => ext L a (ltab__law_leagues_right sl)) [eC (.txt (.str [108, 101, 97, 103, 117, 101])), eVar 4, eVar 5]))) (cVal (eOp2 oIsNot (eCall f_is_league [eVar 4]) (eC (.bl false))))) (sRet (eC (.bl false))) (sNx))))))))))))) (sRet (eC (.bl true)))))
def f__law_leagues_right (L : Lm) : Fn := callMk 7 2 (m__law_leagues_right L)
def m__law_itself (L : Lm) : SM := sSeq (sPar 1 2 (eC .non) (eOpN mkLst [eC .non])) (sSeq (sTry (sDrop (eCallV gt L (eVar 0) [eVar 2])) (hitC nC anc 0) 3 (sSet 1 (eVar 3))) (sSeq (sDrop (eMeth isL oAppend (eVar 2) (eC (.int 0)))) (sRet (eAnd (eOp2 oIsNot (eVar 1) (eC .non)) (eOp2 oEq (eOpN oRepr [eOp1 (oVal nC) (eVar 1)]) (eOpN oRepr [eOpN mkLst [eC .non, eC (.int 0)]]))))))
def f__law_itself (L : Lm) : Fn := callM 4 1 (m__law_itself L)
def m__law_rest_right (L : Lm) (a : Nat) : SM := sSeq (sTgt (.tp [2, 3]) (eOpN mkTup [eOpN mkLst [eOpN mkLst [], eOpN mkLst [eC (.int 0)], eOpN mkLst [eC (.int 0), eC (.int 0)]], eOpN mkLst [eOpN mkLst [], eOpN mkLst [eC (.int 0)], eOpN mkLst [eC (.int 1), eC (.int 0)]]])) (sSeq (sFor (iSeq (eOpN mkLst [eC .non, eOp1 oNeg (eC (.int 1)), eVar 0, eC (.int 3), eOp2 oAdd (eVar 1) (eC (.int 3)), eC (.bl true), eC (.txt (.str [48])), eOpN mkLst [eC (.int 0)], eOpN mkTup [eC (.int 0)]])) (.nm 4) (sSeq (sIf (cNot (cVal (eCallL f__law_all (fun sl => ext L a (ltab__law_rest_right sl)) [eC (.txt (.str [112, 101, 114, 115, 111, 110])), eVar 4, eOpN mkLst [eLam 11 (some a)]]))) (sRet (eC (.bl false))) (sNx)) (sIf (cNot (cVal (eCallL f__law_all (fun sl => ext L a (ltab__law_rest_right sl)) [eC (.txt (.str [112, 101, 114, 115, 111, 110])), eVar 4, eOpN mkLst [eLam 12 (some a)]]))) (sRet (eC (.bl false))) (sNx)))) (sSeq (sIf (cNot (cVal (eCallL f__law_all (fun sl => ext L a (ltab__law_rest_right sl)) [eC (.txt (.str [112, 101, 114, 115, 111, 110])), eC (.int 1), eOpN mkLst [eLam 13 (some a)]]))) (sRet (eC (.bl false))) (sNx)) (sSeq (sIf (cNot (cVal (eCallL f__law_all (fun sl => ext L a (ltab__law_rest_right sl)) [eC (.txt (.str [112, 101, 114, 115, 111, 110])), eC (.int 0), eOpN mkLst [eLam 14 none]]))) (sRet (eC (.bl false))) (sNx)) (sSeq (sSet 5 (eOpN mkLst [eC .non, eC (.int 7), eOpN mkTup [eC (.int 0)], eOpN mkTup [eC (.int 1), eC (.int 0)], eOpN mkTup [eC (.int 0), eC (.int 0)], eOpN mkLst [eC (.int 0), eC (.int 1)], eOpN mkTup [eC (.int 0), eC (.int 3)], eOpN mkTup [eOp1 oNeg (eC (.int 1)), eC (.int 0)], eOpN mkTup [eC (.int 0), eVar 0], eOpN mkTup [eC (.int 0), eOp2 oAdd (eVar 1) (eC (.int 3))], eOpN mkTup [eC (.int 0), eC (.bl true)], eOpN mkTup [eC (.int 0), eC .non], eOpN mkTup [eC (.bl false), eC (.int 1)], eOpN mkTup [eC (.int 0), eC (.int 1), eC (.int 2)], eC (.txt (.str [48, 49])), eD0])) (sSeq (sFor (iSeq (eVar 5)) (.nm 4) (sSeq (sIf (cNot (cVal (eCallL f__law_all (fun sl => ext L a (ltab__law_rest_right sl)) [eC (.txt (.str [99, 111, 117, 112, 108, 101])), eVar 4, eOpN mkLst [eLam 15 (some a)]]))) (sRet (eC (.bl false))) (sNx)) (sSeq (sIf (cNot (cVal (eCallL f__law_all (fun sl => ext L a (ltab__law_rest_right sl)) [eC (.txt (.str [99, 111, 117, 112, 108, 101])), eVar 4, eOpN mkLst [eLam 16 (some a)]]))) (sRet (eC (.bl false))) (sNx)) (sIf (cNot (cVal (eCallL f__law_all (fun sl => ext L a (ltab__law_rest_right sl)) [eC (.txt (.str [99, 111, 117, 112, 108, 101])), eVar 4, eOpN mkLst [eLam 17 (some a)]]))) (sRet (eC (.bl false))) (sNx))))) (sSeq (sIf (cNot (cVal (eCallL f__law_all (fun sl => ext L a (ltab__law_rest_right sl)) [eC (.txt (.str [99, 111, 117, 112, 108, 101])), eOpN mkTup [eC (.int 0), eC (.int 2)], eOpN mkLst [eLam 18 (some a)]]))) (sRet (eC (.bl false))) (sNx)) (sSeq (sIf (cNot (cVal (eCallL f__law_all (fun sl => ext L a (ltab__law_rest_right sl)) [eC (.txt (.str [99, 111, 117, 112, 108, 101])), eOpN mkTup [eC (.int 0), eC (.int 1)], eOpN mkLst [eLam 19 (some a)]]))) (sRet (eC (.bl false))) (sNx)) (sSeq (sFor (iSeq (eOpN mkLst [eC .non, eOp1 oNeg (eC (.int 1)), eVar 0, eC (.int 6), eOp2 oAdd (eVar 1) (eC (.int 6)), eC (.bl true), eC (.txt (.str [48])), eOpN mkLst [eC (.int 0)]])) (.nm 4) (sIf (cNot (cVal (eCallL f__law_all (fun sl => ext L a (ltab__law_rest_right sl)) [eC (.txt (.str [110, 117, 109, 98, 101, 114])), eVar 4, eOpN mkLst [eLam 20 (some a)]]))) (sRet (eC (.bl false))) (sNx))) (sSeq (sIf (cNot (cVal (eCallL f__law_all (fun sl => ext L a (ltab__law_rest_right sl)) [eC (.txt (.str [110, 117, 109, 98, 101, 114])), eC (.int 1), eOpN mkLst [eLam 21 (some a)]]))) (sRet (eC (.bl false))) (sNx)) (sSeq (sIf (cNot (cVal (eCallL f__law_all (fun sl => ext L a (ltab__law_rest_right sl)) [eC (.txt (.str [110, 117, 109, 98, 101, 114])), eC (.int 1), eOpN mkLst [eLam 22 none]]))) (sRet (eC (.bl false))) (sNx)) (sSeq (sFor (iSeq (eOpN mkLst [eOpN mkLst [eOpN mkLst []], eOpN mkLst [eOpN mkLst [], eOpN mkLst [eC (.int 1)]], eOpN mkLst [eOpN mkLst [], eOpN mkLst [eC (.int 0)], eOpN mkLst [eC (.int 0), eC (.int 0)], eOpN mkLst [eC (.int 0), eC (.int 0), eC (.int 0)]]])) (.nm 4) (sSeq (sFor (iSeq (eOpN mkLst [eC (.glo 10), eC (.glo 11), eC (.glo 12), eC (.glo 13)])) (.nm 6) (sIf (cNot (cVal (eCallL f__law_all (fun sl => ext L a (ltab__law_rest_right sl)) [eC (.txt (.str [117, 110, 108, 105, 107, 101])), eVar 4, eOpN mkLst [eLam 23 (some a)]]))) (sRet (eC (.bl false))) (sNx))) (sIf (cNot (cVal (eCallL f__law_all (fun sl => ext L a (ltab__law_rest_right sl)) [eC (.txt (.str [117, 110, 108, 105, 107, 101])), eVar 4, eOpN mkLst [eLam 24 (some a)]]))) (sRet (eC (.bl false))) (sNx)))) (sSeq (sSet 7 (eOpN mkLst [eLam 25 none])) (sSeq (sDrop (eMeth isL oAppend (eVar 7) (eLam 26 none))) (sSeq (sDrop (eMeth isL oAppend (eVar 7) (eLam 27 none))) (sSeq (sDrop (eMeth isL oAppend (eVar 7) (eLam 28 none))) (sSeq (sDrop (eMeth isL oAppend (eVar 7) (eLam 29 none))) (sRet (eOp2 oEq (eLc (iSeq (eVar 7)) (.nm 6) [6] (cNot (cVal (eCallL f__law_itself (fun _ => L) [eVar 6]))) (eVar 6)) (eOpN mkLst [])))))))))))))))))))
def f__law_rest_right (L : Lm) : Fn := callMk 8 2 (m__law_rest_right L)
def m_law (L : Lm) : SM := sPre gcells (sRet (eAnd (eCallL (cutL f__law_leagues_right) (fun _ => L) [eVar 3, eVar 4]) (eAnd (eCallL (cutL f__law_rest_right) (fun _ => L) [eVar 3, eVar 4]) (eCall (fnD f__law_named_right) []))))
def f_law (L : Lm) : Fn := callM 5 1 (m_law L)
theorem ru0_0 (ns : List Int) : (eCallL (cutL f__law_leagues_right) (fun _ => (L0 lt0)) [eVar 3, eVar 4]) ([some .scr, none, none, some (.sym 0 (-1) (-1)), some (.sym 1 (1) (0))]) (AH.nil ns) = .ok (.bl true) ⟨0, 0, ns, .lf⟩ := by kernel_rfl
theorem ru0_1 (ns : List Int) : (eCallL (cutL f__law_rest_right) (fun _ => (L0 lt0)) [eVar 3, eVar 4]) ([some .scr, none, none, some (.sym 0 (-1) (-1)), some (.sym 1 (1) (0))]) (⟨0, 0, ns, .lf⟩) = .ok (.bl true) ⟨0, 0, ns, .lf⟩ := by kernel_rfl
theorem ru0_2 (ns : List Int) : chk ((eCall (fnD f__law_named_right) []) ([some .scr, none, none, some (.sym 0 (-1) (-1)), some (.sym 1 (1) (0))]) (⟨0, 0, ns, .lf⟩)) = true := by kernel_rfl
end Pm
/-! PmDefs: values, cells, the small heap, results, the meanings of Python's constructs as Lean functions. -/
namespace Pm
open PySem

/-! ### whole numbers, fast -/
theorem ieq_iff (i j : Int) : ieq i j = decide (i = j) := by
  apply Bool.eq_iff_iff.mpr
  rw [decide_eq_true_iff]
  cases i <;> cases j <;> simp only [ieq, Nat.beq_eq, Bool.false_eq_true, Int.ofNat_eq_natCast, Int.negSucc_eq] <;> constructor <;> intro h <;> first | omega | trivial | exact h.elim
theorem ilt_iff (i j : Int) : ilt i j = decide (i < j) := by
  apply Bool.eq_iff_iff.mpr
  rw [decide_eq_true_iff]
  cases i <;> cases j <;> simp only [ilt, Nat.blt_eq, Bool.false_eq_true, Int.ofNat_eq_natCast, Int.negSucc_eq] <;> constructor <;> intro h <;> first | omega | trivial | exact h.elim
theorem ile_iff (i j : Int) : ile i j = decide (i ≤ j) := by
  unfold ile
  rw [ilt_iff, Bool.eq_iff_iff]
  simp

/-! ### data as it is read: with letters in it -/
/-! ### the heap -/
def Tr.getC : Tr → Nat → Option Cell
  | .lf, _ => none
  | .nd l c r, i => match i with
    | 0 => c
    | k + 1 => match Nat.beq (k % 2) 0 with
      | true => l.getC (k / 2)
      | false => r.getC (k / 2)
def Tr.putC : Nat → Tr → Nat → Cell → Tr
  | 0, t, _, _ => t
  | f + 1, .lf, i, x => match i with
    | 0 => .nd .lf (some x) .lf
    | k + 1 => match Nat.beq (k % 2) 0 with
      | true => .nd (Tr.putC f .lf (k / 2) x) none .lf
      | false => .nd .lf none (Tr.putC f .lf (k / 2) x)
  | f + 1, .nd l c r, i, x => match i with
    | 0 => .nd l (some x) r
    | k + 1 => match Nat.beq (k % 2) 0 with
      | true => .nd (Tr.putC f l (k / 2) x) c r
      | false => .nd l c (Tr.putC f r (k / 2) x)
theorem Tr.get_eqC : ∀ (t : Tr) (i : Nat), t.get i = t.getC i
  | .lf, i => by unfold Tr.getC; rfl
  | .nd l c r, 0 => by unfold Tr.getC; rfl
  | .nd l c r, k + 1 => by
    unfold Tr.getC
    show Bool.rec (motive := fun _ => Option Cell) (r.get (k / 2)) (l.get (k / 2)) (Nat.beq (k % 2) 0) = _
    rw [Tr.get_eqC l, Tr.get_eqC r]
    dsimp only
    split <;> rename_i e <;> rw [e]
theorem Tr.put_eqC : ∀ (f : Nat) (t : Tr) (i : Nat) (x : Cell), Tr.put f t i x = Tr.putC f t i x
  | 0, t, i, x => by unfold Tr.putC; rfl
  | f + 1, .lf, 0, x => by unfold Tr.putC; rfl
  | f + 1, .lf, k + 1, x => by
    unfold Tr.putC
    show Bool.rec (motive := fun _ => Tr) (.nd .lf none (Tr.put f .lf (k / 2) x)) (.nd (Tr.put f .lf (k / 2) x) none .lf) (Nat.beq (k % 2) 0) = _
    rw [Tr.put_eqC f]
    dsimp only
    split <;> rename_i e <;> rw [e]
  | f + 1, .nd l c r, 0, x => by unfold Tr.putC; rfl
  | f + 1, .nd l c r, k + 1, x => by
    unfold Tr.putC
    show Bool.rec (motive := fun _ => Tr) (.nd l c (Tr.put f r (k / 2) x)) (.nd (Tr.put f l (k / 2) x) c r) (Nat.beq (k % 2) 0) = _
    rw [Tr.put_eqC f, Tr.put_eqC f]
    dsimp only
    split <;> rename_i e <;> rw [e]
theorem Tr.getC_lf (i : Nat) : Tr.getC .lf i = none := by unfold Tr.getC; rfl
theorem Tr.getC_putC : ∀ (f : Nat) (t : Tr) (i j : Nat) (x : Cell), i + 1 < 2 ^ f → Tr.getC (Tr.putC f t i x) j = if j = i then some x else Tr.getC t j
  | 0, t, i, j, x, h => absurd h (by omega)
  | f + 1, .lf, 0, j, x, h => by
    unfold Tr.putC Tr.getC
    cases j with
    | zero => rfl
    | succ k =>
      simp only [Tr.getC_lf]
      rw [if_neg (by omega)]
      split <;> rfl
  | f + 1, .lf, k + 1, j, x, h => by
    have hk : k / 2 + 1 < 2 ^ f := by omega
    unfold Tr.putC
    dsimp only
    split
    · rename_i e
      have e1 : k % 2 = 0 := Nat.eq_of_beq_eq_true e
      unfold Tr.getC
      cases j with
      | zero => rw [if_neg (by omega)]
      | succ q =>
        dsimp only
        split
        · rename_i e2
          have e3 : q % 2 = 0 := Nat.eq_of_beq_eq_true e2
          rw [Tr.getC_putC f .lf (k / 2) (q / 2) x hk, Tr.getC_lf]
          by_cases z : q / 2 = k / 2
          · rw [if_pos z, if_pos (by omega)]
          · rw [if_neg z, if_neg (by omega)]
        · rename_i e2
          have e3 : ¬ q % 2 = 0 := fun z => by rw [z] at e2; cases e2
          rw [Tr.getC_lf, if_neg (by omega)]
    · rename_i e
      have e1 : ¬ k % 2 = 0 := fun z => by rw [z] at e; cases e
      unfold Tr.getC
      cases j with
      | zero => rw [if_neg (by omega)]
      | succ q =>
        dsimp only
        split
        · rename_i e2
          have e3 : q % 2 = 0 := Nat.eq_of_beq_eq_true e2
          rw [Tr.getC_lf, if_neg (by omega)]
        · rename_i e2
          have e3 : ¬ q % 2 = 0 := fun z => by rw [z] at e2; cases e2
          rw [Tr.getC_putC f .lf (k / 2) (q / 2) x hk, Tr.getC_lf]
          by_cases z : q / 2 = k / 2
          · rw [if_pos z, if_pos (by omega)]
          · rw [if_neg z, if_neg (by omega)]
  | f + 1, .nd l c r, 0, j, x, h => by
    unfold Tr.putC Tr.getC
    cases j with
    | zero => rfl
    | succ k =>
      rw [if_neg (by omega)]
  | f + 1, .nd l c r, k + 1, j, x, h => by
    have hk : k / 2 + 1 < 2 ^ f := by omega
    unfold Tr.putC
    dsimp only
    split
    · rename_i e
      have e1 : k % 2 = 0 := Nat.eq_of_beq_eq_true e
      unfold Tr.getC
      cases j with
      | zero => rw [if_neg (by omega)]
      | succ q =>
        dsimp only
        split
        · rename_i e2
          have e3 : q % 2 = 0 := Nat.eq_of_beq_eq_true e2
          rw [Tr.getC_putC f l (k / 2) (q / 2) x hk]
          by_cases z : q / 2 = k / 2
          · rw [if_pos z, if_pos (by omega)]
          · rw [if_neg z, if_neg (by omega)]
        · rename_i e2
          have e3 : ¬ q % 2 = 0 := fun z => by rw [z] at e2; cases e2
          rw [if_neg (by omega)]
    · rename_i e
      have e1 : ¬ k % 2 = 0 := fun z => by rw [z] at e; cases e
      unfold Tr.getC
      cases j with
      | zero => rw [if_neg (by omega)]
      | succ q =>
        dsimp only
        split
        · rename_i e2
          have e3 : q % 2 = 0 := Nat.eq_of_beq_eq_true e2
          rw [if_neg (by omega)]
        · rename_i e2
          have e3 : ¬ q % 2 = 0 := fun z => by rw [z] at e2; cases e2
          rw [Tr.getC_putC f r (k / 2) (q / 2) x hk]
          by_cases z : q / 2 = k / 2
          · rw [if_pos z, if_pos (by omega)]
          · rw [if_neg z, if_neg (by omega)]
theorem Tr.get_lf (i : Nat) : Tr.get .lf i = none := rfl
theorem Tr.get_put (f : Nat) (t : Tr) (i j : Nat) (x : Cell) (h : i + 1 < 2 ^ f) : Tr.get (Tr.put f t i x) j = if j = i then some x else Tr.get t j := by
  rw [Tr.get_eqC, Tr.put_eqC, Tr.getC_putC f t i j x h, Tr.get_eqC]
theorem AH.get_put (h : AH) (l j : Loc) (c : Cell) : (h.put l c).get j = if j = l then some c else h.get j := Tr.get_put _ _ _ _ _ Nat.lt_two_pow_self
theorem AH.get_new (h : AH) (j : Loc) (c : Cell) : (h.new c).get j = if j = h.n then some c else h.get j := Tr.get_put _ _ _ _ _ Nat.lt_two_pow_self

/-! ### results -/
def Res.bindC {α β : Type} (r : Res α) (k : α → AH → Res β) : Res β := match r with
  | .ok a h => k a h
  | .exc c d h => .exc c d h
  | .no => .no
def ofOC {α : Type} (r : Option (α × AH)) : Res α := match r with
  | some (a, h) => .ok a h
  | none => .no
/-! ### slots -/
def sgetC : Sl → Nat → Option W
  | [], _ => none
  | x :: _, 0 => x
  | _ :: r, k + 1 => sgetC r k
def sputC : Sl → Nat → Option W → Sl
  | [], _, _ => []
  | _ :: r, 0, x => x :: r
  | y :: r, k + 1, x => y :: sputC r k x
/-! ### expressions -/
def eVarC (i : Nat) : EM := fun σ h => match sget σ i with
  | some w => .ok w h
  | none => .no
def eNo : EM := fun _ _ => .no
def evsC : List EM → AM
  | [] => fun _ h => .ok [] h
  | e :: es => fun σ h => (e σ h).bind fun x h1 => (evsC es σ h1).bind fun xs h2 => .ok (x :: xs) h2
/-! ### tests -/
/-! ### new objects -/
/-! ### what a loop walks -/
def nthC : List W → Nat → Option W
  | [], _ => none
  | x :: _, 0 => some x
  | _ :: r, k + 1 => nthC r k
/-! ### targets -/
def seqItems (h : AH) (l : Loc) : Option (List W) := match h.get l with
  | some (.tup xs) => some xs
  | _ => none
/-! ### comprehensions -/
def lcLoopC (J : MIt) (t : Tg) (own : List Nat) (c : CM) (e : EM) (d : Loc) (σ : Sl) : Nat → Nat → AH → Res W
  | 0, _, _ => .no
  | f + 1, i, h => match J.next i h with
    | .no => .no
    | .stop => .ok (.ref d) h
    | .yld x h1 => match t.put x σ h1 with
      | none => .no
      | some σ1 => match c σ1 h1 with
        | .ok false h2 => lcLoopC J t own c e d σ f (i + 1) h2
        | .ok true h2 => (match e σ1 h2 with
          | .ok y h3 => (match h3.get d with
            | some (.lst acc) => (match Nat.blt acc.length 1000000 with
              | true => lcLoopC J t own c e d σ f (i + 1) (h3.put d (.lst (acc ++ [y])))
              | false => .no)
            | _ => .no)
          | _ => .no)
        | _ => .no
theorem lcLoop_s (J : MIt) (t : Tg) (own : List Nat) (c : CM) (e : EM) (d : Loc) (σ : Sl) (f i : Nat) (h : AH) : lcLoop J t own c e d σ (f + 1) i h = match J.next i h with
    | .no => .no
    | .stop => .ok (.ref d) h
    | .yld x h1 => match t.put x σ h1 with
      | none => .no
      | some σ1 => match c σ1 h1 with
        | .ok false h2 => lcLoop J t own c e d σ f (i + 1) h2
        | .ok true h2 => (match e σ1 h2 with
          | .ok y h3 => (match h3.get d with
            | some (.lst acc) => (match Nat.blt acc.length 1000000 with
              | true => lcLoop J t own c e d σ f (i + 1) (h3.put d (.lst (acc ++ [y])))
              | false => .no)
            | _ => .no)
          | _ => .no)
        | _ => .no := rfl
/-! ### statements -/
def sNo : SM := fun _ _ => .no
def sSeqC (a b : SM) : SM := fun σ h => match a σ h with
  | .nx σ' h' => b σ' h'
  | r => r
def Res.toSRC {α : Type} (r : Res α) (σ : Sl) (k : α → AH → SR) : SR := match r with
  | .ok a h => k a h
  | .exc c d h => .exc c d σ h
  | .no => .no
def sRetN : SM := fun _ h => .rt .non h
def sBk : SM := fun σ h => .bk σ h
def sCt : SM := fun σ h => .ct σ h
def forLoopC (J : MIt) (t : Tg) (b : SM) : Nat → Nat → Sl → AH → SR
  | 0, _, _, _ => .no
  | f + 1, i, σ, h => match J.next i h with
    | .no => .no
    | .stop => .nx σ h
    | .yld x h1 => match t.put x σ h1 with
      | none => .no
      | some σ1 => match b σ1 h1 with
        | .nx σ2 h2 => forLoopC J t b f (i + 1) σ2 h2
        | .ct σ2 h2 => forLoopC J t b f (i + 1) σ2 h2
        | .bk σ2 h2 => .nx σ2 h2
        | r => r
theorem forLoop_s (J : MIt) (t : Tg) (b : SM) (f i : Nat) (σ : Sl) (h : AH) : forLoop J t b (f + 1) i σ h = match J.next i h with
    | .no => .no
    | .stop => .nx σ h
    | .yld x h1 => match t.put x σ h1 with
      | none => .no
      | some σ1 => match b σ1 h1 with
        | .nx σ2 h2 => forLoop J t b f (i + 1) σ2 h2
        | .ct σ2 h2 => forLoop J t b f (i + 1) σ2 h2
        | .bk σ2 h2 => .nx σ2 h2
        | r => r := rfl
def whileLoopC (c : CM) (b : SM) : Nat → Sl → AH → SR
  | 0, _, _ => .no
  | f + 1, σ, h => match c σ h with
    | .ok false h1 => .nx σ h1
    | .ok true h1 => (match b σ h1 with
      | .nx σ2 h2 => whileLoopC c b f σ2 h2
      | .ct σ2 h2 => whileLoopC c b f σ2 h2
      | .bk σ2 h2 => .nx σ2 h2
      | r => r)
    | .exc x d h1 => .exc x d σ h1
    | .no => .no
def whileLoop (c : CM) (b : SM) (f : Nat) : Sl → AH → SR := Nat.rec (motive := fun _ => Sl → AH → SR) (fun _ _ => .no) (fun _ ih σ h => match c σ h with
    | .ok false h1 => .nx σ h1
    | .ok true h1 => (match b σ h1 with
      | .nx σ2 h2 => ih σ2 h2
      | .ct σ2 h2 => ih σ2 h2
      | .bk σ2 h2 => .nx σ2 h2
      | r => r)
    | .exc x d h1 => .exc x d σ h1
    | .no => .no) f
theorem whileLoop_s (c : CM) (b : SM) (f : Nat) (σ : Sl) (h : AH) : whileLoop c b (f + 1) σ h = match c σ h with
    | .ok false h1 => .nx σ h1
    | .ok true h1 => (match b σ h1 with
      | .nx σ2 h2 => whileLoop c b f σ2 h2
      | .ct σ2 h2 => whileLoop c b f σ2 h2
      | .bk σ2 h2 => .nx σ2 h2
      | r => r)
    | .exc x d h1 => .exc x d σ h1
    | .no => .no := rfl
def sWhile (c : CM) (b : SM) : SM := whileLoop c b 1000001
def sAug (f : Op2) (i : Nat) (e : EM) : SM := fun σ h => match sget σ i with
  | none => .no
  | some x => (e σ h).toSR σ fun y h1 => match f x y h1 with
    | some (z, h2) => .nx (sput σ i (some z)) h2
    | none => .no
/-! ### defs -/
def startC (n : Nat) (vs : List W) : Sl := vs.map some ++ List.replicate (n - vs.length) none
theorem start_eqC : ∀ (n : Nat) (vs : List W), start n vs = startC n vs
  | n, [] => by
    show Nat.rec (motive := fun _ => Sl) [] (fun _ ih => none :: ih) n = List.replicate (n - 0) none
    rw [Nat.sub_zero]
    induction n with
    | zero => rfl
    | succ n ih => exact congrArg (none :: ·) ih
  | n, v :: r => by
    show some v :: start (Nat.pred n) r = some v :: (r.map some ++ List.replicate (n - (r.length + 1)) none)
    rw [start_eqC (Nat.pred n) r]
    show some v :: (r.map some ++ List.replicate (n - 1 - r.length) none) = _
    rw [Nat.sub_sub, Nat.add_comm 1]
end Pm
/-! PmRel: how the small heap lies in the layer's heap; what a meaning says of a reading. -/
namespace Pm
open PySem PySem.Spec
open L2 (cloFrom)
open L2 (V Hp HO Cx Inv PE PT PA PS PSs TE TT TA TS St VK XK WX Ends RelV Vals upd upd_same upd_ne Takes)

/-! ### data with letters, and the data that it stands for -/
def tx : PyData → Str
  | .str x => x
  | _ => ""
mutual
def SD.g (ρ : Nat → Int) : SD → PyData
  | .non => .none
  | .bl b => .bool b
  | .int i => .int i
  | .sym k a c => .int (a * ρ k + c)
  | .str x => .str ⟨x.toArray⟩
  | .rep d => .str (d.g ρ).shown
  | .cat d e => .str (tx (d.g ρ) ++ tx (e.g ρ))
  | .lst xs => .list (SD.gs ρ xs)
  | .tup xs => .tuple (SD.gs ρ xs)
  | .dct ks vs => .dict ((SD.gs ρ ks).zip (SD.gs ρ vs))
def SD.gs (ρ : Nat → Int) : List SD → List PyData
  | [] => []
  | d :: r => d.g ρ :: SD.gs ρ r
end

/-! ### the map of places, of activations' cells -/
structure Mp where
  as : List Addr
  cs : List (List (Str × Addr))
structure Mp.Le (m m' : Mp) : Prop where
  as : m.as <+: m'.as
  cs : m.cs <+: m'.cs
theorem Mp.Le.refl (m : Mp) : m.Le m := ⟨List.prefix_refl _, List.prefix_refl _⟩
theorem Mp.Le.trans {a b c : Mp} (x : a.Le b) (y : b.Le c) : a.Le c := ⟨x.as.trans y.as, x.cs.trans y.cs⟩
theorem pre_get {α : Type} {l l' : List α} (h : l <+: l') {i : Nat} {x : α} (e : l[i]? = some x) : l'[i]? = some x := by
  obtain ⟨r, rfl⟩ := h
  obtain ⟨hi, he⟩ := List.getElem?_eq_some_iff.mp e
  rw [List.getElem?_append_left hi]
  exact e
theorem Mp.Le.at {m m' : Mp} (x : m.Le m') {l : Nat} {a : Addr} (e : m.as[l]? = some a) : m'.as[l]? = some a := pre_get x.as e
def Mp.snoc (m : Mp) (a : Addr) : Mp := ⟨m.as ++ [a], m.cs⟩
theorem Mp.le_snoc (m : Mp) (a : Addr) : m.Le (m.snoc a) := ⟨List.prefix_append _ _, List.prefix_refl _⟩

structure LamD where
  q : Str
  params : Arguments
  body : Expr
  scope : Scope
def LamD.nf (d : LamD) (cl : List (Str × Addr)) (c : Addr) : NdefX.NF := ⟨"<lambda>", d.q, d.params, [], d.scope, cloFrom cl d.scope.names [], c⟩
def LamO (f : Addr) (F : NdefX.NF) (e : Expr) : HO := .ext fun h => ∃ (pm ctv : Value), h.get? f = some (PySem.W.kla_obj "<lambda>" F.qual F.params e F.scope F.cl pm F.c ctv)
structure Gx where
  K : PySem.W.Frag
  sa : Addr
  ga : Nat → Addr
  ρ : Nat → Int
  ρ0 : ∀ k, 0 ≤ ρ k ∧ ρ k ≤ 1000000000000000000000000000000
  rw : Nat → Int
  ns : List Int
  m0 : Mp
  tt : List (Addr × Str)
  cs : List (Addr × Addr) := []
  lam : Nat → LamD := fun _ => ⟨"", ⟨[], [], none, [], [], none, []⟩, .Constant .none 0 ⟨0, 0, 0, 0⟩, ⟨.function, [], false, false, []⟩⟩

def Tbs (G : Gx) (base : Heap) (mg : Str → Option Value) : Prop := ∀ p ∈ G.cs, LamX.TabB base mg p.1 p.2
def VR (G : Gx) (m : Mp) : W → V → Prop
  | .non, v => v = .non
  | .bl b, v => v = .bl b
  | .int i, v => v = .int i
  | .sym k a c, v => v = .int (a * G.ρ k + c)
  | .txt d, v => v = .str (tx (d.g G.ρ))
  | .ref l, v => ∃ a, m.as[l]? = some a ∧ v = .ref a
  | .ty n, v => v = .ty n.nm
  | .glo g, v => v = .ref (G.ga g)
  | .scr, v => v = .ref G.sa
  | .raw k, v => v = .int (G.rw k)
abbrev VRs (G : Gx) (m : Mp) : List W → List V → Prop := Paired (VR G m)
theorem VR.mono {G : Gx} {m m' : Mp} (x : m.Le m') : ∀ {w : W} {v : V}, VR G m w v → VR G m' w v
  | .non, _, h => h
  | .bl _, _, h => h
  | .int _, _, h => h
  | .sym _ _ _, _, h => h
  | .txt _, _, h => h
  | .ref _, _, ⟨a, e, q⟩ => ⟨a, x.at e, q⟩
  | .ty _, _, h => h
  | .glo _, _, h => h
  | .scr, _, h => h
  | .raw _, _, h => h
theorem VRs.mono {G : Gx} {m m' : Mp} (x : m.Le m') {ws : List W} {vs : List V} (h : VRs G m ws vs) : VRs G m' ws vs := L2.Paired.mapP h fun _ _ => VR.mono x

def ExcO (cls : Value) (d : Option Addr) (a : Addr) : HO := .ext fun h => ∃ (oe : Obj) (vs : Array Value), h.get? a = some oe ∧ L2.Zc cls d oe ∧ oe.data = .fields vs

def kof : Sum Int (List Nat) → L2.Key
  | .inl i => .inl i
  | .inr x => .inr ⟨x.toArray⟩
def CR (G : Gx) (m : Mp) (a : Addr) : Cell → HO → Prop
  | .lst ws, o => ∃ vs, VRs G m ws vs ∧ o = .lst vs
  | .tup ws, o => ∃ vs, VRs G m ws vs ∧ o = .tup vs
  | .dct kvs, o => ∃ kv', Paired (fun (p : Sum Int (List Nat) × W) (q : L2.Key × V) => kof p.1 = q.1 ∧ VR G m p.2 q.2) kvs kv' ∧ o = .dK kv'
  | .set xs, o => xs.Nodup ∧ o = .set (fun i => decide (i ∈ xs)) xs.length
  | .xd w, o => ∃ v, VR G m w v ∧ o = .xd [("value", v)]
  | .exc c d, o => ∃ ad, m.as[d]? = some ad ∧ o = ExcO (.ref (G.ga c)) (some ad) a
  | .exn c, o => o = ExcO (.ref (G.ga c)) none a
  | .lam _ _, o => ∃ φ, o = .ext φ
  | .dtp kvs, o => ∃ kv', Paired (fun (p : List Int × W) (q : List L2.Key × V) => p.1.map Sum.inl = q.1 ∧ VR G m p.2 q.2) kvs kv' ∧ o = .dT kv'
  | .ali ws, o => ∃ vs, VRs G m ws vs ∧ o = .tup vs
theorem CR.mono {G : Gx} {m m' : Mp} {a : Addr} (x : m.Le m') : ∀ {c : Cell} {o : HO}, CR G m a c o → CR G m' a c o
  | .lst _, _, ⟨vs, r, e⟩ => ⟨vs, VRs.mono x r, e⟩
  | .tup _, _, ⟨vs, r, e⟩ => ⟨vs, VRs.mono x r, e⟩
  | .dct _, _, ⟨kv, r, e⟩ => ⟨kv, L2.Paired.mapP r fun _ _ z => ⟨z.1, VR.mono x z.2⟩, e⟩
  | .set _, _, h => h
  | .xd _, _, ⟨v, r, e⟩ => ⟨v, VR.mono x r, e⟩
  | .exc _ _, _, ⟨ad, r, e⟩ => ⟨ad, x.at r, e⟩
  | .exn _, _, h => h
  | .lam _ _, _, h => h
  | .dtp _, _, ⟨kv, r, e⟩ => ⟨kv, L2.Paired.mapP r fun _ _ z => ⟨z.1, VR.mono x z.2⟩, e⟩
  | .ali _, _, ⟨vs, r, e⟩ => ⟨vs, VRs.mono x r, e⟩
def Cell.isLam : Cell → Bool
  | .lam _ _ => true
  | _ => false
def LamAt (G : Gx) (m : Mp) (H : Hp) (a : Addr) (i : Nat) (act : Option Nat) : Prop := ∃ cl c', (act = none → cl = []) ∧ (∀ k, act = some k → m.cs[k]? = some cl) ∧ H a = some (LamO a ((G.lam i).nf cl c') (G.lam i).body) ∧ H c' = some (LamX.CodeO c' (G.lam i).q)
theorem LamAt.mono {G : Gx} {m m' : Mp} {H H' : Hp} {a : Addr} {i : Nat} {act : Option Nat} (x : m.Le m') (e : ∀ b φ, H b = some (.ext φ) → H' b = some (.ext φ)) : LamAt G m H a i act → LamAt G m' H' a i act := fun ⟨cl, c', h1, h2, h3, h4⟩ =>
  ⟨cl, c', h1, fun k z => pre_get x.cs (h2 k z), e _ _ h3, e _ _ h4⟩

def ScrR (K : PySem.W.Frag) (H : Hp) (a : Addr) (xs : List V) : Prop := (∃ ob, H a = some (.frz ob (.lst xs))) ∨ L2.SqL K (fun _ => none) a xs
theorem ScrR.sq {K : PySem.W.Frag} {H : Hp} {a : Addr} {xs : List V} (h : ScrR K H a xs) : L2.SqL K H a xs := by
  rcases h with ⟨ob, e⟩ | (q | q)
  · exact .inl (.inr ⟨ob, e⟩)
  · rcases q with q | ⟨ob, q⟩ <;> cases q
  · exact .inr q
theorem sq_upd {K : PySem.W.Frag} {H : Hp} {a : Addr} {xs : List V} (h : ScrR K H a xs) {p : Addr} {o : HO} (np : ∀ ob, H p ≠ some (.frz ob (.lst xs))) : ScrR K (upd H p o) a xs := by
  rcases h with ⟨ob, e⟩ | q
  · exact .inl ⟨ob, by rw [upd_ne (fun z => by rw [z] at e; exact np ob e)]; exact e⟩
  · exact .inr q

def NdR (as : List Addr) (h : AH) : Prop := ∀ (i j : Nat) (a : Addr), as[i]? = some a → as[j]? = some a → i = j ∨ isAli (h.get i) = true ∨ isAli (h.get j) = true
theorem NdR.snoc {as : List Addr} {h : AH} {c : Cell} {g : Addr} (nd : NdR as h) (len : as.length = h.n) (fr : ∀ j : Nat, as[j]? = some g → isAli (h.get j) = true) : NdR (as ++ [g]) (h.new c) := fun i j a e1 e2 => by
  have old : ∀ {l : Nat} {a : Addr}, (as ++ [g])[l]? = some a → l = h.n ∧ a = g ∨ l ≠ h.n ∧ as[l]? = some a := fun {l a} e => by
    by_cases hl : l = h.n
    · left
      rw [hl, ← len, List.getElem?_concat_length] at e
      cases e
      exact ⟨hl, rfl⟩
    · right
      obtain ⟨hi, _⟩ := List.getElem?_eq_some_iff.mp e
      have hi2 : l < as.length + 1 := by simpa using hi
      rw [List.getElem?_append_left (Nat.lt_of_le_of_ne (Nat.le_of_lt_succ hi2) fun z => hl (z.trans len))] at e
      exact ⟨hl, e⟩
  rcases old e1 with ⟨a1, b1⟩ | ⟨a1, b1⟩
  · rcases old e2 with ⟨a2, b2⟩ | ⟨a2, b2⟩
    · exact .inl (a1.trans a2.symm)
    · exact .inr (.inr (by rw [AH.get_new, if_neg a2]; exact fr j (by rw [b2, b1])))
  · rcases old e2 with ⟨a2, b2⟩ | ⟨a2, b2⟩
    · exact .inr (.inl (by rw [AH.get_new, if_neg a1]; exact fr i (by rw [b1, b2])))
    · rcases nd i j a b1 b2 with z | z | z
      · exact .inl z
      · exact .inr (.inl (by rw [AH.get_new, if_neg a1]; exact z))
      · exact .inr (.inr (by rw [AH.get_new, if_neg a2]; exact z))
structure Rel (G : Gx) (m : Mp) (h : AH) (H : Hp) : Prop where
  pre : G.m0.Le m
  len : m.as.length = h.n
  act : m.cs.length = h.k
  nd : NdR m.as h
  cell : ∀ l a, m.as[l]? = some a → ∃ c o, h.get l = some c ∧ H a = some o ∧ CR G m a c o
  tab : LamX.Tabs G.tt H
  scr : ScrR G.K H G.sa (h.s.map V.int)
  sn : h.s = G.ns
  lam : ∀ l a i act, m.as[l]? = some a → h.get l = some (.lam i act) → LamAt G m H a i act
theorem Rel.see {G : Gx} {m : Mp} {h : AH} {H : Hp} (R : Rel G m h H) {l : Loc} {a : Addr} {c : Cell} (e : m.as[l]? = some a) (hc : h.get l = some c) : ∃ o, H a = some o ∧ CR G m a c o := by
  obtain ⟨c', o, e1, e2, e3⟩ := R.cell l a e
  rw [hc] at e1
  cases e1
  exact ⟨o, e2, e3⟩
theorem Rel.new {G : Gx} {m : Mp} {h : AH} {H : Hp} (R : Rel G m h H) {p : Addr} (np : H p = none) {c : Cell} {o : HO} (r : CR G (m.snoc p) p c o) (nl : c.isLam = false := by rfl) : Rel G (m.snoc p) (h.new c) (upd H p o) where
  pre := R.pre.trans (m.le_snoc p)
  len := by
    show (m.as ++ [p]).length = h.n + 1
    rw [List.length_append, R.len]
    rfl
  act := R.act
  sn := R.sn
  nd := R.nd.snoc R.len fun j e => by
    obtain ⟨c', o', _, e3, _⟩ := R.cell j p e
    rw [np] at e3
    cases e3
  cell := fun l a e => by
    have e' : (m.as ++ [p])[l]? = some a := e
    rw [AH.get_new]
    by_cases hl : l = h.n
    · rw [if_pos hl]
      rw [hl, ← R.len, List.getElem?_concat_length] at e'
      cases e'
      exact ⟨c, o, rfl, upd_same, r⟩
    · rw [if_neg hl]
      have lt : l < m.as.length := by
        obtain ⟨hi, _⟩ := List.getElem?_eq_some_iff.mp e'
        have hi2 : l < m.as.length + 1 := by simpa using hi
        have := R.len
        exact Nat.lt_of_le_of_ne (Nat.le_of_lt_succ hi2) fun z => hl (z.trans R.len)
      rw [List.getElem?_append_left lt] at e'
      obtain ⟨c', o', e1, e2, e3⟩ := R.cell l a e'
      exact ⟨c', o', e1, by rw [upd_ne (L2.ne_of_none e2 np)]; exact e2, e3.mono (m.le_snoc p)⟩
  tab := R.tab.ext fun b u q => by
    rw [upd_ne (L2.ne_of_none q np)]
    exact q
  scr := sq_upd R.scr fun ob z => by
    rw [np] at z
    cases z
  lam := fun l a i act e hc => by
    rw [AH.get_new] at hc
    by_cases hl : l = h.n
    · rw [if_pos hl] at hc
      cases hc
      cases nl
    · rw [if_neg hl] at hc
      have e' : (m.as ++ [p])[l]? = some a := e
      have lt : l < m.as.length := by
        obtain ⟨hi, _⟩ := List.getElem?_eq_some_iff.mp e'
        have hi2 : l < m.as.length + 1 := by simpa using hi
        exact Nat.lt_of_le_of_ne (Nat.le_of_lt_succ hi2) fun z => hl (z.trans R.len)
      rw [List.getElem?_append_left lt] at e'
      exact (R.lam l a i act e' hc).mono (m.le_snoc p) fun b φ z => by
        rw [upd_ne (L2.ne_of_none z np)]
        exact z
def Cell.mut : Cell → Bool
  | .lst _ => true
  | .dct _ => true
  | .set _ => true
  | .dtp _ => true
  | _ => false
theorem tabs_upd {T : List (Addr × Str)} {H : Hp} {a : Addr} {u o : HO} (t : LamX.Tabs T H) (e : H a = some u) (h1 : ∀ ps, u ≠ .tbl ps) (h2 : ∀ φ, u ≠ .ext φ) : LamX.Tabs T (upd H a o) := fun p hp => by
  obtain ⟨ps, a1, a2, a3⟩ := t p hp
  have n1 : p.1 ≠ a := fun z => by
    rw [z, e] at a1
    exact h1 ps (Option.some.inj a1)
  refine ⟨ps, by rw [upd_ne n1]; exact a1, a2, fun pos cv hc => ?_⟩
  obtain ⟨c, e1, e2⟩ := a3 pos cv hc
  have n2 : c ≠ a := fun z => by
    rw [z, e] at e2
    exact h2 _ (Option.some.inj e2)
  exact ⟨c, e1, by rw [upd_ne n2]; exact e2⟩
theorem Rel.put {G : Gx} {m : Mp} {h : AH} {H : Hp} (R : Rel G m h H) {l : Loc} {a : Addr} {c c' : Cell} {o : HO} (e : m.as[l]? = some a) (hc : h.get l = some c) (hm : c.mut = true) (r : CR G m a c' o) (nl : c'.isLam = false := by rfl) : Rel G m (h.put l c') (upd H a o) where
  lam := fun l' a' i act e' hc' => by
    rw [AH.get_put] at hc'
    by_cases hl : l' = l
    · rw [if_pos hl] at hc'
      cases hc'
      cases nl
    · rw [if_neg hl] at hc'
      refine (R.lam l' a' i act e' hc').mono (.refl _) fun b φ z => ?_
      rw [upd_ne fun q => ?_]
      · exact z
      · obtain ⟨o1, e2, e3⟩ := R.see e hc
        rw [← q, z] at e2
        cases e2
        cases c with
        | lst _ => obtain ⟨_, _, q⟩ := e3; cases q
        | dct _ => obtain ⟨_, _, q⟩ := e3; cases q
        | set _ => obtain ⟨_, q⟩ := e3; cases q
        | dtp _ => obtain ⟨_, _, q⟩ := e3; cases q
        | _ => cases hm
  pre := R.pre
  len := R.len
  act := R.act
  sn := R.sn
  nd := fun i j b e1 e2 => by
    rcases R.nd i j b e1 e2 with z | z | z
    · exact .inl z
    · refine .inr (.inl ?_)
      rw [AH.get_put]
      by_cases hl : i = l
      · rw [hl, hc] at z
        cases c <;> first | (cases z; done) | (cases hm; done)
      · rw [if_neg hl]
        exact z
    · refine .inr (.inr ?_)
      rw [AH.get_put]
      by_cases hl : j = l
      · rw [hl, hc] at z
        cases c <;> first | (cases z; done) | (cases hm; done)
      · rw [if_neg hl]
        exact z
  cell := fun l' a' e' => by
    rw [AH.get_put]
    by_cases hl : l' = l
    · rw [if_pos hl]
      rw [hl, e] at e'
      cases e'
      exact ⟨c', o, rfl, upd_same, r⟩
    · rw [if_neg hl]
      obtain ⟨c1, o1, e1, e2, e3⟩ := R.cell l' a' e'
      have ne : a' ≠ a := fun z => by
        subst z
        obtain ⟨o2, f2, f3⟩ := R.see e hc
        rw [e2] at f2
        cases f2
        rcases R.nd l' l a' e' e with z | z | z
        · exact hl z
        · rw [e1] at z
          cases c1 with
          | ali ws =>
            obtain ⟨vs, _, rfl⟩ := e3
            cases c with
            | lst _ => obtain ⟨_, _, q⟩ := f3; cases q
            | dct _ => obtain ⟨_, _, q⟩ := f3; cases q
            | set _ => obtain ⟨_, q⟩ := f3; cases q
            | dtp _ => obtain ⟨_, _, q⟩ := f3; cases q
            | _ => cases hm
          | _ => cases z
        · rw [hc] at z
          cases c <;> first | (cases z; done) | (cases hm; done)
      exact ⟨c1, o1, e1, by rw [upd_ne ne]; exact e2, e3⟩
  scr := sq_upd R.scr fun ob z => by
    obtain ⟨o1, e2, e3⟩ := R.see e hc
    rw [z] at e2
    cases e2
    cases c with
    | lst _ => obtain ⟨_, _, q⟩ := e3; cases q
    | dct _ => obtain ⟨_, _, q⟩ := e3; cases q
    | set _ => obtain ⟨_, q⟩ := e3; cases q
    | dtp _ => obtain ⟨_, _, q⟩ := e3; cases q
    | _ => cases hm
  tab := by
    obtain ⟨o1, e2, e3⟩ := R.see e hc
    refine tabs_upd R.tab e2 (fun ps z => ?_) (fun φ z => ?_)
    · subst z
      cases c with
      | lst _ => obtain ⟨_, _, q⟩ := e3; cases q
      | dct _ => obtain ⟨_, _, q⟩ := e3; cases q
      | set _ => obtain ⟨_, q⟩ := e3; cases q
      | dtp _ => obtain ⟨_, _, q⟩ := e3; cases q
      | _ => cases hm
    · subst z
      cases c with
      | lst _ => obtain ⟨_, _, q⟩ := e3; cases q
      | dct _ => obtain ⟨_, _, q⟩ := e3; cases q
      | set _ => obtain ⟨_, q⟩ := e3; cases q
      | dtp _ => obtain ⟨_, _, q⟩ := e3; cases q
      | _ => cases hm

/-! ### slots -/
def S1 (G : Gx) (m : Mp) : Option W → Option V → Prop
  | none, _ => True
  | some w, v => ∃ x, v = some x ∧ VR G m w x
abbrev SlR (G : Gx) (m : Mp) : Sl → St → Prop := Paired (S1 G m)
theorem S1.mono {G : Gx} {m m' : Mp} (x : m.Le m') : ∀ {a : Option W} {v : Option V}, S1 G m a v → S1 G m' a v
  | none, _, _ => trivial
  | some _, _, ⟨y, e, r⟩ => ⟨y, e, VR.mono x r⟩
theorem SlR.mono {G : Gx} {m m' : Mp} (x : m.Le m') {a : Sl} {σ : St} (h : SlR G m a σ) : SlR G m' a σ := L2.Paired.mapP h fun _ _ => S1.mono x
theorem SlR.get {G : Gx} {m : Mp} : ∀ {a : Sl} {σ : St} {i : Nat} {w : W}, SlR G m a σ → sget a i = some w → ∃ x, σ[i]? = some (some x) ∧ VR G m w x
  | _, _, _, _, .nil, e => by cases e
  | _, _, 0, w, .cons (a := a) (b := b) h _, e => by
    have e' : a = some w := e
    subst e'
    obtain ⟨x, rfl, r⟩ := h
    exact ⟨x, rfl, r⟩
  | _, _, i + 1, w, .cons _ t, e => by
    obtain ⟨x, q, r⟩ := SlR.get (i := i) (w := w) t e
    exact ⟨x, by simpa using q, r⟩
theorem SlR.put {G : Gx} {m : Mp} {a : Option W} {v : Option V} (r : S1 G m a v) : ∀ {s : Sl} {σ : St} (i : Nat), SlR G m s σ → SlR G m (sput s i a) (σ.set i v)
  | _, _, _, .nil => .nil
  | _, _, 0, .cons _ t => .cons r t
  | _, _, i + 1, .cons q t => .cons q (SlR.put r i t)
theorem SlR.wipe {G : Gx} {m : Mp} {s : Sl} {σ : St} (h : SlR G m s σ) : ∀ vs : List Nat, SlR G m (swipe s vs) (L2.wipe σ vs)
  | [] => h
  | v :: vs => SlR.put (a := none) (v := none) trivial v (SlR.wipe h vs)

/-! ### what a result gives -/
def Sat {α β : Type} (G : Gx) (m : Mp) (E : XK) (R : Mp → α → β → Prop) : Res α → (β → Hp → Prop) → Prop
  | .ok a h, Q => ∀ m' H' b, m.Le m' → Rel G m' h H' → R m' a b → Q b H'
  | .exc c d h, _ => ∀ m' H' ad, m.Le m' → Rel G m' h H' → m'.as[d]? = some ad → E (.ref (G.ga c)) (some ad) H'
  | .no, _ => False
theorem Sat.mono {α β : Type} {G : Gx} {m m1 : Mp} {E : XK} {R : Mp → α → β → Prop} (x : m.Le m1) : ∀ {r : Res α} {Q : β → Hp → Prop}, Sat G m E R r Q → Sat G m1 E R r Q
  | .ok _ _, _, h => fun m' H' b y => h m' H' b (x.trans y)
  | .exc _ _ _, _, h => fun m' H' ad y => h m' H' ad (x.trans y)
  | .no, _, h => h
theorem Sat.imp {α β : Type} {G : Gx} {m : Mp} {E : XK} {R : Mp → α → β → Prop} : ∀ {r : Res α} {Q Q' : β → Hp → Prop}, Sat G m E R r Q → (∀ b H', Q b H' → Q' b H') → Sat G m E R r Q'
  | .ok _ _, _, _, h, f => fun m' H' b y r q => f b H' (h m' H' b y r q)
  | .exc _ _ _, _, _, h, _ => h
  | .no, _, _, h, _ => h
theorem Sat.impE {α β : Type} {G : Gx} {m : Mp} {E E' : XK} {R : Mp → α → β → Prop} (f : ∀ c d H, E c d H → E' c d H) : ∀ {r : Res α} {Q : β → Hp → Prop}, Sat G m E R r Q → Sat G m E' R r Q
  | .ok _ _, _, h => h
  | .exc _ _ _, _, h => fun m' H' ad y r q => f _ _ _ (h m' H' ad y r q)
  | .no, _, h => h
def Mid {α β : Type} (G : Gx) (m : Mp) (R : Mp → α → β → Prop) (P : Mp → α → AH → Prop) (b : β) (H' : Hp) : Prop := ∃ m' a h', m.Le m' ∧ Rel G m' h' H' ∧ R m' a b ∧ P m' a h'
theorem Sat.bind {α β γ δ : Type} {G : Gx} {m : Mp} {E : XK} {R : Mp → α → β → Prop} {R' : Mp → γ → δ → Prop} {k : α → AH → Res γ} {Q : δ → Hp → Prop} :
    ∀ {r : Res α}, Sat G m E R' (r.bind k) Q → Sat G m E R r (Mid G m R fun m' a h' => Sat G m' E R' (k a h') Q)
  | .ok a h, s => fun m' _ _ x r q => ⟨m', a, h, x, r, q, s.mono x⟩
  | .exc _ _ _, s => s
  | .no, s => s
def tX {α β : Type} (G : Gx) (W : WX) (R : Mp → α → β → Prop) (g : Sl → AH → Res α) : St → Hp → (β → Hp → Prop) → Prop := fun σ H Q => ∃ m h s, Rel G m h H ∧ SlR G m s σ ∧ Sat G m (fun c d H => W c d σ H) R (g s h) Q
abbrev RB : Mp → Bool → Bool → Prop := fun _ a b => a = b
abbrev tE (G : Gx) (W : WX) (g : EM) : TE := tX G W (VR G) g
abbrev tC (G : Gx) (W : WX) (g : CM) : TT := tX G W RB g
abbrev tA (G : Gx) (W : WX) (g : AM) : TA := tX G W (VRs G) g
def SatS (G : Gx) (m : Mp) (W : WX) (D : Ends) : SR → Prop
  | .nx s h => ∀ m' σ H', m.Le m' → Rel G m' h H' → SlR G m' s σ → D.nx σ H'
  | .rt w h => ∀ m' H' v, m.Le m' → Rel G m' h H' → VR G m' w v → D.rt v H'
  | .bk s h => ∀ m' σ H', m.Le m' → Rel G m' h H' → SlR G m' s σ → D.bk σ H'
  | .ct s h => ∀ m' σ H', m.Le m' → Rel G m' h H' → SlR G m' s σ → D.ct σ H'
  | .exc c d s h => ∀ m' σ H' ad, m.Le m' → Rel G m' h H' → SlR G m' s σ → m'.as[d]? = some ad → W (.ref (G.ga c)) (some ad) σ H'
  | .no => False
theorem SatS.mono {G : Gx} {m m1 : Mp} {W : WX} {D : Ends} (x : m.Le m1) : ∀ {r : SR}, SatS G m W D r → SatS G m1 W D r
  | .nx _ _, h => fun m' σ H' y => h m' σ H' (x.trans y)
  | .rt _ _, h => fun m' σ H' y => h m' σ H' (x.trans y)
  | .bk _ _, h => fun m' σ H' y => h m' σ H' (x.trans y)
  | .ct _ _, h => fun m' σ H' y => h m' σ H' (x.trans y)
  | .exc _ _ _ _, h => fun m' σ H' ad y => h m' σ H' ad (x.trans y)
  | .no, h => h
def tS (G : Gx) (W : WX) (g : SM) : TS := fun D σ H => ∃ m h s, Rel G m h H ∧ SlR G m s σ ∧ SatS G m W D (g s h)
theorem Sat.toSR {α β : Type} {G : Gx} {m : Mp} {W : WX} {D : Ends} {R : Mp → α → β → Prop} {s : Sl} {σ : St} {k : α → AH → SR} (S : SlR G m s σ) :
    ∀ {r : Res α}, SatS G m W D (r.toSR s k) → Sat G m (fun c d H => W c d σ H) R r (Mid G m R fun m' a h' => SatS G m' W D (k a h'))
  | .ok a h, q => fun m' _ _ x r z => ⟨m', a, h, x, r, z, q.mono x⟩
  | .exc _ _ _, q => fun m' H' ad x r z => q m' σ H' ad x r (S.mono x) z
  | .no, q => q

/-! ### weaker readings -/
theorem pe_of {X : Cx} {e : Expr} {t t' : TE} (h : PE X e t) (f : ∀ σ H Q, t' σ H Q → t σ H Q) : PE X e t' := ⟨fun pins s σ H Q I q => h.run pins s σ H Q I (f σ H Q q)⟩
theorem pt_of {X : Cx} {e : Expr} {t t' : TT} (h : PT X e t) (f : ∀ σ H Q, t' σ H Q → t σ H Q) : PT X e t' := ⟨fun pins s σ H Q I q => h.run pins s σ H Q I (f σ H Q q)⟩
theorem pa_of {X : Cx} {es : List Expr} {t t' : TA} (h : PA X es t) (f : ∀ σ H Q, t' σ H Q → t σ H Q) : PA X es t' := ⟨fun pos pins s σ H Q I q => h.run pos pins s σ H Q I (f σ H Q q)⟩
theorem ps_of {X : Cx} {st : Stmt} {t t' : TS} (h : PS X st t) (f : ∀ D σ H, t' D σ H → t D σ H) : PS X st t' := ⟨fun pins s σ H D I q => h.run pins s σ H D I (f D σ H q)⟩
theorem pss_of {X : Cx} {st : List Stmt} {t t' : TS} (h : PSs X st t) (f : ∀ D σ H, t' D σ H → t D σ H) : PSs X st t' := ⟨fun pins s σ H D I q => h.run pins s σ H D I (f D σ H q)⟩
end Pm
/-! PmExp: the rules of expressions, tests, arguments, calls. -/
namespace Pm
open PySem PySem.Spec
open L2 (V Hp HO Cx Inv PE PT PA PS PSs PW TE TT TA TS St VK XK WX Ends RelV Vals upd upd_same upd_ne Takes R2 OpR CallR tOp tVar Vis Gl FnOk Room Binds)
section
variable {X : Cx} {G : Gx} {Z : WX} {pos : Pos}

/-! ### names, constants -/
theorem pm_var {i : Nat} {x : Str} (hN : X.N[i]? = some x := by rfl) (hv : Vis X.env.scope x := by first | exact Or.inl rfl | exact Or.inr (Or.inl rfl) | exact Or.inr (Or.inr rfl)) (hd : (x == ("__debug__" : Str)) = false := by decide) (hcd : (x == ("__classdict__" : Str)) = false := by decide) :
    PE X (.Name x pos) (tE G Z (eVar i)) := pe_of (L2.pe_var hN hv hd hcd) fun σ H Q h => by
  obtain ⟨m, h, s, R, S, q⟩ := h
  unfold eVar at q
  cases e : sget s i with
  | none =>
    rw [e] at q
    exact q.elim
  | some w =>
    rw [e] at q
    obtain ⟨x, e1, r⟩ := S.get e
    exact ⟨x, e1, q m H x (.refl m) R r⟩
theorem c_read {w : W} {v : V} (r : ∀ m, VR G m w v) {σ : St} {H : Hp} {Q : VK} (h : tE G Z (eC w) σ H Q) : L2.tC v σ H Q := by
  obtain ⟨m, h, s, R, S, q⟩ := h
  exact q m H v (.refl m) R (r m)
theorem pm_int {i j} : PE X (.Constant (.int i) j pos) (tE G Z (eC (.int i))) := pe_of L2.pe_int fun _ _ _ => c_read (by intro _; exact rfl)
theorem pm_bl {b j} : PE X (.Constant (.bool b) j pos) (tE G Z (eC (.bl b))) := pe_of L2.pe_bl fun _ _ _ => c_read (by intro _; exact rfl)
theorem pm_non {j} : PE X (.Constant .none j pos) (tE G Z (eC .non)) := pe_of L2.pe_non fun _ _ _ => c_read (by intro _; exact rfl)
theorem pm_str {x : Str} {j} (cs : List Nat) (h : x = ⟨cs.toArray⟩) : PE X (.Constant (.str x) j pos) (tE G Z (eC (.txt (.str cs)))) := by
  subst h
  exact pe_of L2.pe_str fun _ _ _ => c_read (by intro _; exact rfl)
theorem pm_glob {x : Str} {g : Nat} (hg : Gl X x) (hm : X.mg x = some (.ref (G.ga g))) (hd : (x == ("__debug__" : Str)) = false := by decide) : PE X (.Name x pos) (tE G Z (eC (.glo g))) := pe_of (L2.pe_glob (v := .ref (G.ga g)) hg hm rfl hd) fun _ _ _ => c_read (by intro _; exact rfl)
theorem pm_globi {x : Str} {i : Int} {t : Tok} (hg : Gl X x) (hm : X.mg x = some (.int i t)) (hd : (x == ("__debug__" : Str)) = false := by decide) : PE X (.Name x pos) (tE G Z (eC (.int i))) := pe_of (L2.pe_glob (v := .int i) hg hm ⟨t, rfl⟩ hd) fun _ _ _ => c_read (by intro _; exact rfl)
theorem pm_ty {x : Str} {n : Ty} (hg : Gl X x) (hm : X.mg x = none) (hv : bootBuiltins x = some (.type n.nm)) (hn : x ≠ "__name__" := by decide) (hd : (x == ("__debug__" : Str)) = false := by decide) : PE X (.Name x pos) (tE G Z (eC (.ty n))) := pe_of (L2.pe_bltn (v := .ty n.nm) hg hm hv rfl hn hd) fun _ _ _ => c_read (by intro _; exact rfl)
theorem pm_no {e : Expr} : PE X e (tE G Z eNo) := ⟨fun _ _ _ _ _ _ h => by
  obtain ⟨m, h, s, R, S, q⟩ := h
  exact q.elim⟩

/-! ### operators -/
def rO (G : Gx) (f : Op2) : R2 := fun x y H Q => ∃ m h a b, Rel G m h H ∧ VR G m a x ∧ VR G m b y ∧ Sat G m (fun _ _ _ => False) (VR G) (ofO (f a b h)) Q
def rU (G : Gx) (f : Op1) : V → Hp → VK → Prop := fun x H Q => ∃ m h a, Rel G m h H ∧ VR G m a x ∧ Sat G m (fun _ _ _ => False) (VR G) (ofO (f a h)) Q
def rN (G : Gx) (f : OpN) : List V → Hp → VK → Prop := fun xs H Q => ∃ m h as, Rel G m h H ∧ VRs G m as xs ∧ Sat G m (fun _ _ _ => False) (VR G) (ofO (f as h)) Q
theorem Sat.ofO {α β : Type} {m : Mp} {E E' : XK} {R : Mp → α → β → Prop} {r : Option (α × AH)} {Q : β → Hp → Prop} (h : Sat G m E R (ofO r) Q) : Sat G m E' R (ofO r) Q := by
  cases r with
  | none => exact h
  | some p => exact h
theorem op2_read {f : Op2} {a b : EM} {σ : St} {H : Hp} {Q : VK} (h : tE G Z (eOp2 f a b) σ H Q) : tOp (rO G f) (tE G Z a) (tE G Z b) σ H Q := by
  obtain ⟨m, h, s, R, S, q⟩ := h
  refine ⟨m, h, s, R, S, (Sat.bind (R := VR G) q).imp fun x H1 z => ?_⟩
  obtain ⟨m1, wa, h1, l1, R1, ra, q1⟩ := z
  refine ⟨m1, h1, s, R1, S.mono l1, (Sat.bind (R := VR G) q1).imp fun y H2 z => ?_⟩
  obtain ⟨m2, wb, h2, l2, R2, rb, q2⟩ := z
  exact ⟨m2, h2, wa, wb, R2, ra.mono l2, rb, q2.ofO⟩
theorem pm_op2 {op : Operator} {f : Op2} {a b : Expr} {ga gb : EM} (ho : OpR X (binaryOp op) (rO G f)) (ha : PE X a (tE G Z ga)) (hb : PE X b (tE G Z gb)) : PE X (.BinOp a op b pos) (tE G Z (eOp2 f ga gb)) :=
  pe_of (L2.pe_op ho ha hb) fun _ _ _ => op2_read
theorem pm_cmp {op : CmpOp} {f : Op2} {a b : Expr} {ga gb : EM} (ho : OpR X (compareOp op) (rO G f)) (ha : PE X a (tE G Z ga)) (hb : PE X b (tE G Z gb)) (hm : behindInMarks op b = false := by first | exact L2.nomark _ | rfl) : PE X (.Compare a [op] [b] pos) (tE G Z (eOp2 f ga gb)) :=
  pe_of (L2.pe_cmpR ho ha hb hm) fun _ _ _ => op2_read
theorem op1_read {f : Op1} {a : EM} {σ : St} {H : Hp} {Q : VK} (h : tE G Z (eOp1 f a) σ H Q) : L2.tUn (rU G f) (tE G Z a) σ H Q := by
  obtain ⟨m, h, s, R, S, q⟩ := h
  refine ⟨m, h, s, R, S, (Sat.bind (R := VR G) q).imp fun x H1 z => ?_⟩
  obtain ⟨m1, wa, h1, l1, R1, ra, q1⟩ := z
  exact ⟨m1, h1, wa, R1, ra, q1.ofO⟩
theorem pm_un {op : UnaryOp} {f : Op1} {a : Expr} {ga : EM} (ho : L2.UnR X (unaryOp op) (rU G f)) (ha : PE X a (tE G Z ga)) : PE X (.UnaryOp op a pos) (tE G Z (eOp1 f ga)) := pe_of (L2.pe_un ho ha) fun _ _ _ => op1_read
theorem chain_read {f g : Op2} {a b c : EM} {σ : St} {H : Hp} {Q : VK} (h : tE G Z (eChain f g a b c) σ H Q) : L2.tChain (rO G f) (rO G g) (tE G Z a) (tE G Z b) (tE G Z c) σ H Q := by
  obtain ⟨m, h, s, R, S, q⟩ := h
  refine ⟨m, h, s, R, S, (Sat.bind (R := VR G) q).imp fun x H1 z => ?_⟩
  obtain ⟨m1, wa, h1, l1, R1, ra, q1⟩ := z
  refine ⟨m1, h1, s, R1, S.mono l1, (Sat.bind (R := VR G) q1).imp fun y H2 z => ?_⟩
  obtain ⟨m2, wb, h2, l2, R2, rb, q2⟩ := z
  refine ⟨m2, h2, wa, wb, R2, ra.mono l2, rb, (Sat.bind (R := VR G) q2).ofO.imp fun v H3 z => ?_⟩
  obtain ⟨m3, t, h3, l3, R3, rt, q3⟩ := z
  cases t with
  | bl k =>
    refine ⟨k, rt, ?_⟩
    cases k with
    | false => exact q3 m3 H3 _ (.refl m3) R3 rfl
    | true =>
      refine ⟨m3, h3, s, R3, S.mono ((l1.trans l2).trans l3), (Sat.bind (R := VR G) q3).imp fun u H4 z => ?_⟩
      obtain ⟨m4, wc, h4, l4, R4, rc, q4⟩ := z
      exact ⟨m4, h4, wb, wc, R4, rb.mono (l3.trans l4), rc, q4.ofO⟩
  | _ => exact q3.elim
theorem pm_chain {op op' : CmpOp} {f g : Op2} {a b c : Expr} {ga gb gc : EM} (ho : OpR X (compareOp op) (rO G f)) (ho' : OpR X (compareOp op') (rO G g)) (ha : PE X a (tE G Z ga)) (hb : PE X b (tE G Z gb)) (hc : PE X c (tE G Z gc))
    (hm : lastMarks [op, op'] [b, c] = false := by with_unfolding_all rfl) : PE X (.Compare a [op, op'] [b, c] pos) (tE G Z (eChain f g ga gb gc)) := pe_of (L2.pe_chain ho ho' ha hb hc hm) fun _ _ _ => chain_read

/-! ### tests -/
theorem val_read {e : EM} {σ : St} {H : Hp} {Q : Bool → Hp → Prop} (h : tC G Z (cVal e) σ H Q) : tE G Z e σ H fun x H1 => ∃ k, x = .bl k ∧ Q k H1 := by
  obtain ⟨m, h, s, R, S, q⟩ := h
  refine ⟨m, h, s, R, S, (Sat.bind (R := VR G) q).imp fun x H1 z => ?_⟩
  obtain ⟨m1, wa, h1, l1, R1, ra, q1⟩ := z
  cases wa with
  | bl k => exact ⟨k, ra, q1 m1 H1 k (.refl m1) R1 rfl⟩
  | _ => exact q1.elim
theorem pmt_val {e : Expr} {ge : EM} (h : PE X e (tE G Z ge)) (he : ∀ whole, isTrue e X.env whole = (do let v ← whole; standAt e.pos; holding [v] (truthy v)) := by intro _; rfl) : PT X e (tC G Z (cVal ge)) := pt_of (L2.pt_val h he) fun _ _ _ => val_read
theorem pmt_cmp {op : CmpOp} {f : Op2} {a b : Expr} {ga gb : EM} (ho : OpR X (compareOp op) (rO G f)) (ha : PE X a (tE G Z ga)) (hb : PE X b (tE G Z gb)) (hm : behindInMarks op b = false := by first | exact L2.nomark _ | rfl) : PT X (.Compare a [op] [b] pos) (tC G Z (cVal (eOp2 f ga gb))) :=
  pt_of (L2.pt_cmpR ho ha hb hm) fun _ _ _ h => op2_read (val_read h)
theorem pmt_chain {op op' : CmpOp} {f g : Op2} {a b c : Expr} {ga gb gc : EM} (ho : OpR X (compareOp op) (rO G f)) (ho' : OpR X (compareOp op') (rO G g)) (ha : PE X a (tE G Z ga)) (hb : PE X b (tE G Z gb)) (hc : PE X c (tE G Z gc))
    (hm : lastMarks [op, op'] [b, c] = false := by with_unfolding_all rfl) : PT X (.Compare a [op, op'] [b, c] pos) (tC G Z (cVal (eChain f g ga gb gc))) := pt_of (L2.pt_chain ho ho' ha hb hc hm) fun _ _ _ h => chain_read (val_read h)
theorem not_read {c : CM} {σ : St} {H : Hp} {Q : Bool → Hp → Prop} (h : tC G Z (cNot c) σ H Q) : L2.tNot (tC G Z c) σ H Q := by
  obtain ⟨m, h, s, R, S, q⟩ := h
  refine ⟨m, h, s, R, S, (Sat.bind (R := RB) q).imp fun x H1 z => ?_⟩
  obtain ⟨m1, a, h1, l1, R1, ra, q1⟩ := z
  cases ra
  exact q1 m1 H1 _ (.refl m1) R1 rfl
theorem pmt_not {a : Expr} {c : CM} (h : PT X a (tC G Z c)) : PT X (.UnaryOp .Not a pos) (tC G Z (cNot c)) := pt_of (L2.pt_not h) fun _ _ _ => not_read
theorem cond_read {c : CM} {k : Sl → Bool → AH → Res Bool} {t : TT} {σ : St} {H : Hp} {Q : Bool → Hp → Prop} (h : tX G Z RB (fun s h => (c s h).bind (k s)) σ H Q)
    {Q' : Bool → Hp → Prop} (f : ∀ b H1, (∃ m1 h1 s, Rel G m1 h1 H1 ∧ SlR G m1 s σ ∧ Sat G m1 (fun c d H => Z c d σ H) RB (k s b h1) Q) → Q' b H1) : tC G Z c σ H Q' := by
  obtain ⟨m, h, s, R, S, q⟩ := h
  refine ⟨m, h, s, R, S, (Sat.bind (R := RB) q).imp fun x H1 z => f x H1 ?_⟩
  obtain ⟨m1, a, h1, l1, R1, ra, q1⟩ := z
  cases ra
  exact ⟨m1, h1, s, R1, S.mono l1, q1⟩
theorem pmw_and {a b : Expr} {rest : List Expr} {ca cb : CM} (ha : PT X a (tC G Z ca)) (hb : PW X (.BoolOp .And (b :: rest) pos) (tC G Z cb)) : PW X (.BoolOp .And (a :: b :: rest) pos) (tC G Z (cAnd ca cb)) :=
  ⟨fun wh pins s σ H Q I h => (L2.pw_and ha hb).run wh pins s σ H Q I (cond_read (t := fun _ _ _ => True) h fun t H1 z => by
    obtain ⟨m1, h1, s1, R1, S1, q1⟩ := z
    cases t with
    | true => exact ⟨m1, h1, s1, R1, S1, q1⟩
    | false => exact q1 m1 H1 _ (.refl m1) R1 rfl)⟩
theorem pmw_or {a b : Expr} {rest : List Expr} {ca cb : CM} (ha : PT X a (tC G Z ca)) (hb : PW X (.BoolOp .Or (b :: rest) pos) (tC G Z cb)) : PW X (.BoolOp .Or (a :: b :: rest) pos) (tC G Z (cOr ca cb)) :=
  ⟨fun wh pins s σ H Q I h => (L2.pw_or ha hb).run wh pins s σ H Q I (cond_read (t := fun _ _ _ => True) h fun t H1 z => by
    obtain ⟨m1, h1, s1, R1, S1, q1⟩ := z
    cases t with
    | true => exact q1 m1 H1 _ (.refl m1) R1 rfl
    | false => exact ⟨m1, h1, s1, R1, S1, q1⟩)⟩
theorem pmw_and1 {a : Expr} {ca : CM} (ha : PT X a (tC G Z ca)) : PW X (.BoolOp .And [a] pos) (tC G Z ca) := L2.pw_and1 ha
theorem pmw_or1 {a : Expr} {ca : CM} (ha : PT X a (tC G Z ca)) : PW X (.BoolOp .Or [a] pos) (tC G Z ca) := L2.pw_or1 ha
/-! ### and, or, not, if as values -/
theorem condv_read {c : EM} {k : Sl → W → AH → Res W} {σ : St} {H : Hp} {Q : VK} (h : tE G Z (fun s h => (c s h).bind (k s)) σ H Q)
    {Q' : VK} (f : ∀ w v H1 m1 h1 s, VR G m1 w v → Rel G m1 h1 H1 → SlR G m1 s σ → Sat G m1 (fun c d H => Z c d σ H) (VR G) (k s w h1) Q → Q' v H1) : tE G Z c σ H Q' := by
  obtain ⟨m, h, s, R, S, q⟩ := h
  refine ⟨m, h, s, R, S, (Sat.bind (R := VR G) q).imp fun x H1 z => ?_⟩
  obtain ⟨m1, a, h1, l1, R1, ra, q1⟩ := z
  exact f a x H1 m1 h1 s ra R1 (S.mono l1) q1
theorem pm_and {a b : Expr} {rest : List Expr} {ga gb : EM} (ha : PE X a (tE G Z ga)) (hb : PE X (.BoolOp .And (b :: rest) pos) (tE G Z gb)) : PE X (.BoolOp .And (a :: b :: rest) pos) (tE G Z (eAnd ga gb)) :=
  pe_of (L2.pe_and ha hb) fun σ H Q h => condv_read h fun w v H1 m1 h1 s r R1 S1 q1 => by
    cases w with
    | bl k =>
      refine ⟨k, r, ?_⟩
      cases k with
      | true => exact ⟨m1, h1, s, R1, S1, q1⟩
      | false => exact q1 m1 H1 _ (.refl m1) R1 rfl
    | _ => exact q1.elim
theorem pm_or {a b : Expr} {rest : List Expr} {ga gb : EM} (ha : PE X a (tE G Z ga)) (hb : PE X (.BoolOp .Or (b :: rest) pos) (tE G Z gb)) : PE X (.BoolOp .Or (a :: b :: rest) pos) (tE G Z (eOr ga gb)) :=
  pe_of (L2.pe_or ha hb) fun σ H Q h => condv_read h fun w v H1 m1 h1 s r R1 S1 q1 => by
    cases w with
    | bl k =>
      refine ⟨k, r, ?_⟩
      cases k with
      | false => exact ⟨m1, h1, s, R1, S1, q1⟩
      | true => exact q1 m1 H1 _ (.refl m1) R1 rfl
    | _ => exact q1.elim
theorem pm_one {a : Expr} {op : BoolOp} {ga : EM} (ha : PE X a (tE G Z ga)) : PE X (.BoolOp op [a] pos) (tE G Z ga) := L2.pe_one ha
theorem pm_not {a : Expr} {ga : EM} (ha : PE X a (tE G Z ga)) : PE X (.UnaryOp .Not a pos) (tE G Z (eNot ga)) :=
  pe_of (L2.pe_not ha) fun σ H Q h => condv_read h fun w v H1 m1 h1 s r R1 S1 q1 => by
    cases w with
    | bl k => exact ⟨k, r, q1 m1 H1 _ (.refl m1) R1 rfl⟩
    | _ => exact q1.elim
theorem pm_if {c a b : Expr} {gc : CM} {ga gb : EM} (hc : PT X c (tC G Z gc)) (ha : PE X a (tE G Z ga)) (hb : PE X b (tE G Z gb)) : PE X (.IfExp c a b pos) (tE G Z (eIf gc ga gb)) :=
  pe_of (L2.pe_ifExp hc ha hb) fun σ H Q h => by
    obtain ⟨m, h, s, R, S, q⟩ := h
    refine ⟨m, h, s, R, S, (Sat.bind (R := RB) q).imp fun x H1 z => ?_⟩
    obtain ⟨m1, t, h1, l1, R1, ra, q1⟩ := z
    cases ra
    cases x with
    | true => exact ⟨m1, h1, s, R1, S.mono l1, q1⟩
    | false => exact ⟨m1, h1, s, R1, S.mono l1, q1⟩

/-! ### arguments, displays -/
theorem pma_nil : PA X [] (tA G Z (evs [])) := pa_of L2.pa_nil fun σ H Q h => by
  obtain ⟨m, h, s, R, S, q⟩ := h
  exact q m H [] (.refl m) R .nil
theorem pma_cons {e : Expr} {es : List Expr} {g : EM} {gs : List EM} (ha : PE X e (tE G Z g)) (hr : PA X es (tA G Z (evs gs))) (hs : starEach (e :: es) X.env = (false, eval e X.env) :: starEach es X.env := by rfl) : PA X (e :: es) (tA G Z (evs (g :: gs))) :=
  pa_of (L2.pa_cons ha hr hs) fun σ H Q h => by
    obtain ⟨m, h, s, R, S, q⟩ := h
    refine ⟨m, h, s, R, S, (Sat.bind (R := VR G) q).imp fun x H1 z => ?_⟩
    obtain ⟨m1, a, h1, l1, R1, ra, q1⟩ := z
    refine ⟨m1, h1, s, R1, S.mono l1, (Sat.bind (R := VRs G) q1).imp fun xs H2 z => ?_⟩
    obtain ⟨m2, as, h2, l2, R2, rs, q2⟩ := z
    exact q2 m2 H2 _ (.refl m2) R2 (.cons (ra.mono l2) rs)
theorem new_sat {m : Mp} {h : AH} {H : Hp} {Q : VK} {c : Cell} {p : Addr} {o : HO} {E : XK} (R : Rel G m h H) (np : H p = none) (r : CR G (m.snoc p) p c o) (q : Sat G m E (VR G) (ofO (some (W.ref h.n, h.new c))) Q) (nl : c.isLam = false := by rfl) : Q (.ref p) (upd H p o) :=
  q (m.snoc p) _ _ (m.le_snoc p) (R.new np r nl) ⟨p, by
    show (m.as ++ [p])[h.n]? = some p
    rw [← R.len]
    exact List.getElem?_concat_length, rfl⟩
theorem line_ok {n : Nat} (h : Nat.ble n 1000000 = true) : n ≤ sizeLine := Nat.le_trans (Nat.le_of_ble_eq_true h) (by rw [sizeLine_eq]; decide)
theorem opN_read {f : OpN} {gs : List EM} {σ : St} {H : Hp} {Q : VK} (h : tE G Z (eOpN f gs) σ H Q) : tA G Z (evs gs) σ H fun xs H1 => rN G f xs H1 Q := by
  obtain ⟨m, h, s, R, S, q⟩ := h
  refine ⟨m, h, s, R, S, (Sat.bind (R := VRs G) q).imp fun x H1 z => ?_⟩
  obtain ⟨m1, as, h1, l1, R1, ra, q1⟩ := z
  exact ⟨m1, h1, as, R1, ra, q1.ofO⟩
theorem tA_imp {g : AM} {σ : St} {H : Hp} {Q Q' : List V → Hp → Prop} (h : tA G Z g σ H Q) (f : ∀ xs H', Q xs H' → Q' xs H') : tA G Z g σ H Q' := by
  obtain ⟨m, h, s, R, S, q⟩ := h
  exact ⟨m, h, s, R, S, q.imp f⟩
theorem tE_imp {g : EM} {σ : St} {H : Hp} {Q Q' : VK} (h : tE G Z g σ H Q) (f : ∀ xs H', Q xs H' → Q' xs H') : tE G Z g σ H Q' := by
  obtain ⟨m, h, s, R, S, q⟩ := h
  exact ⟨m, h, s, R, S, q.imp f⟩
theorem vrs_len {m : Mp} {as : List W} {xs : List V} (r : VRs G m as xs) : as.length = xs.length := Paired.length r
theorem pm_tup {es : List Expr} {k : Nat} {gs : List EM} (h : PA X es (tA G Z (evs gs))) : PE X (.Tuple es k pos) (tE G Z (eOpN mkTup gs)) :=
  pe_of (L2.pe_tup h) fun σ H Q h => tA_imp (opN_read h) fun xs H1 z => by
    obtain ⟨m, h, as, R, ra, q⟩ := z
    unfold mkTup at q
    cases e : Nat.ble as.length 1000000 with
    | false =>
      rw [e] at q
      exact q.elim
    | true =>
      rw [e] at q
      refine ⟨by rw [← vrs_len ra]; exact line_ok e, fun p np => new_sat (c := .tup as) R np ⟨xs, ra.mono (m.le_snoc p), rfl⟩ q⟩
theorem pm_lst {es : List Expr} {gs : List EM} (h : PA X es (tA G Z (evs gs))) : PE X (.List es pos) (tE G Z (eOpN mkLst gs)) :=
  pe_of (L2.pe_lst h) fun σ H Q h => tA_imp (opN_read h) fun xs H1 z => by
    obtain ⟨m, h, as, R, ra, q⟩ := z
    unfold mkLst at q
    cases e : Nat.ble as.length 1000000 with
    | false =>
      rw [e] at q
      exact q.elim
    | true =>
      rw [e] at q
      refine ⟨by rw [← vrs_len ra]; exact line_ok e, fun p np => new_sat (c := .lst as) R np ⟨xs, ra.mono (m.le_snoc p), rfl⟩ q⟩
/-! ### calls of the program's defs -/
structure FnG (G : Gx) (P : Program) (w : World) (K : PySem.W.Frag) (mg : Str → Option Value) (k : Nat) (f : Addr) (fd : FuncData) (ps : List Str) (fn : Fn) : Prop where
  len : ∀ ws h, fn ws h ≠ .no → ws.length = ps.length
  run : ∀ (base : Heap) (A : Around) (outer : List Env) (s : Shared) (H : Hp) (args : Args) (us : List Value) (vs : List V) (Q : VK) (E : XK) (m : Mp) (h : AH) (ws : List W), A.guards = some [] → Room k A → Tbs G base mg → L2.Env0 P w K mg base A outer s H → BindsTo s fd args (ps.zip us) → Vals vs us →
    Rel G m h H → VRs G m ws vs → Sat G m E (VR G) (fn ws h) Q → codeAny (model P w) A (.call (.ref f) args) (L2.CR (L2.CX P w) outer P w H s Q E) s
theorem FnG.mono {P : Program} {w : World} {K : PySem.W.Frag} {mg : Str → Option Value} {j k : Nat} {f : Addr} {fd : FuncData} {ps : List Str} {fn : Fn} (F : FnG G P w K mg j f fd ps fn) (h : j ≤ k) : FnG G P w K mg k f fd ps fn :=
  ⟨F.len, fun base A outer s H args us vs Q E m h' ws hg hr => F.run base A outer s H args us vs Q E m h' ws hg (hr.mono h)⟩
theorem Sat.ne {α β : Type} {m : Mp} {E : XK} {R : Mp → α → β → Prop} {r : Res α} {Q : β → Hp → Prop} (h : Sat G m E R r Q) : r ≠ .no := fun e => by
  rw [e] at h
  exact h
def spF (G : Gx) (fn : Fn) : L2.Sp := fun vs H Q E => ∃ m h ws, Rel G m h H ∧ VRs G m ws vs ∧ Sat G m E (VR G) (fn ws h) Q
theorem call_read {fn : Fn} {gs : List EM} {σ : St} {H : Hp} {Q : VK} (h : tE G Z (eCall fn gs) σ H Q) : tA G Z (evs gs) σ H fun xs H1 => spF G fn xs H1 Q fun c d H => Z c d σ H := by
  obtain ⟨m, h, s, R, S, q⟩ := h
  refine ⟨m, h, s, R, S, (Sat.bind (R := VRs G) q).imp fun x H1 z => ?_⟩
  obtain ⟨m1, as, h1, l1, R1, ra, q1⟩ := z
  exact ⟨m1, h1, as, R1, ra, q1⟩
variable {fn : Fn} {k : Nat} {f : Addr} {fd : FuncData} {ps ks : List Str} {x : Str} {p : Pos}
theorem run_fg {pins : List (Addr × Obj)} {σ : St} {H : Hp} {s : Shared} {Q : VK} {args : Args} {us : List Value} {vs : List V} {m : Mp} {h : AH} {ws : List W} (F : FnG G X.prog X.w X.K X.mg k f fd ps fn) (hgd : X.A.guards = some []) (hr : Room k X.A) (tb : Tbs G X.base X.mg) (tk : Takes X Z)
    (I : Inv X pins σ H s) (hb : us.length = ps.length → BindsTo s fd args (ps.zip us)) (r : Vals vs us) (R : Rel G m h H) (rw : VRs G m ws vs) (q : Sat G m (fun c d H => Z c d σ H) (VR G) (fn ws h) Q) :
    codeAny (model X.prog X.w) X.A (.call (.ref f) args) (fun r s' => match r with | .ok (.ret u) => L2.EP X pins σ Q u s' | .ok _ => False | .error e => X.xe e s') s := by
  have hl : us.length = ps.length := by
    rw [← r.length, ← vrs_len rw]
    exact F.len _ _ q.ne
  refine codeAny_mono (F.run X.base X.A X.stack s H args us vs Q _ m h ws hgd hr tb I.env0 (hb hl) r R rw q) fun r s' hq => ?_
  cases r with
  | error e => exact L2.passAt tk σ pins H s e s' I hq
  | ok fl =>
    cases fl with
    | ret u => exact I.after hq
    | next => exact False.elim hq
    | brk => exact False.elim hq
    | cont => exact False.elim hq
theorem ret_call {M : Model} {A : Around} {Q : Value → Shared → Prop} {E : Value → Shared → Prop} {s : Shared} {f : Value} {us : List Value} {kw : List (Str × Value)}
    (h : codeAny M A (.call f ⟨us, kw⟩) (fun r s' => match r with | .ok (.ret u) => Q u s' | .ok _ => False | .error e => E e s') s) : wpAny M A (call f us kw) Q E s :=
  wpAny_call (codeAny_mono h fun r s' hq => by
    cases r with
    | error e => exact hq
    | ok fl =>
      cases fl with
      | ret u => exact hq
      | next => exact False.elim hq
      | brk => exact False.elim hq
      | cont => exact False.elim hq)
theorem pm_call {e : Expr} {es : List Expr} {gs : List EM} (F : FnG G X.prog X.w X.K X.mg k f fd ps fn) (hgd : X.A.guards = some []) (hr : Room k X.A) (tb : Tbs G X.base X.mg) (hg : Gl X x) (hm : X.mg x = some (.ref f)) (hk : PySem.W.keepIn X.K (.ref f) = true) (hb : Binds X.K fd ps []) (tk : Takes X Z)
    (ha : PA X (e :: es) (tA G Z (evs gs))) (hdb : (x == ("__debug__" : Str)) = false := by decide) (he : starEach (e :: es) X.env = (false, eval e X.env) :: starEach es X.env := by rfl) (hpl : (backTo pos (starEach es X.env)).any (·.1) = false := by rfl) :
    PE X (.Call (.Name x p) (e :: es) [] pos) (tE G Z (eCall fn gs)) := by
  refine ⟨fun pins s σ H Q I h => ?_⟩
  refine wpAny_Call_Name_kw (L2.ld_glob I hg hm ?_ hdb)
  refine PySem.W.callWith_K (h₀ := X.base) I.ok.mod.kin hk (L2.thn (ha.run pos pins s σ H _ I (call_read h)) fun us s1 ⟨vs, H1, I1, r, m, h1, ws, R, rw, q⟩ => ⟨I1.kIn, ?_⟩) he hpl
  refine ret_call (run_fg F hgd hr tb tk I1 (fun hl => ?_) r R rw q)
  have b := hb s1 us I1.kIn (by rw [List.append_nil]; exact hl)
  rw [List.append_nil] at b
  exact b
theorem pm_call0 (F : FnG G X.prog X.w X.K X.mg k f fd ps fn) (hgd : X.A.guards = some []) (hr : Room k X.A) (tb : Tbs G X.base X.mg) (hg : Gl X x) (hm : X.mg x = some (.ref f)) (hk : PySem.W.keepIn X.K (.ref f) = true) (hb : Binds X.K fd ps []) (tk : Takes X Z)
    (hdb : (x == ("__debug__" : Str)) = false := by decide) : PE X (.Call (.Name x p) [] [] pos) (tE G Z (eCall fn [])) := by
  refine ⟨fun pins s σ H Q I h => ?_⟩
  obtain ⟨m, h, sl, R, S, q⟩ := h
  refine wpAny_Call_Name_kw (L2.ld_glob I hg hm ?_ hdb)
  refine PySem.W.callWith_K0 I.kIn hk (ret_call (run_fg F hgd hr tb tk I (us := []) (vs := []) (ws := []) (fun hl => ?_) .nil R .nil q))
  have b := hb s [] I.kIn hl
  exact b
theorem pm_callK {g : List Value → List Value → List Value} {gV : List V → List V → List V} {gW : List W → List W → List W} {e : Expr} {es : List Expr} {kws : List Keyword} {gs gk : List EM} (F : FnG G X.prog X.w X.K X.mg k f fd ps fn) (hgd : X.A.guards = some []) (hr : Room k X.A) (tb : Tbs G X.base X.mg) (hg : Gl X x) (hm : X.mg x = some (.ref f)) (hk : PySem.W.keepIn X.K (.ref f) = true) (hb : L2.KBinds X.K fd ps ks g gV) (tk : Takes X Z)
    (hgW : ∀ {m : Mp} {as bs : List W} {vs zs : List V}, VRs G m as vs → VRs G m bs zs → VRs G m (gW as bs) (gV vs zs))
    (ha : PA X (e :: es) (tA G Z (evs gs))) (hkw : L2.PK X kws (tA G Z (evs gk))) (hall : (backToKw pos (keywordEach kws X.env)).all (·.1.isSome) = true := by rfl) (hks : (backToKw pos (keywordEach kws X.env)).filterMap (·.1) = ks := by rfl)
    (hdb : (x == ("__debug__" : Str)) = false := by decide) (he : starEach (e :: es) X.env = (false, eval e X.env) :: starEach es X.env := by rfl)
    (hpl : ((backTo pos (starEach (e :: es) X.env)).any (·.1) || (backToKw pos (keywordEach kws X.env)).any (·.1.isNone)) = false := by rfl) :
    PE X (.Call (.Name x p) (e :: es) kws pos) (tE G Z (eCallK fn gW gs gk)) := by
  refine ⟨fun pins s σ H Q I h => ?_⟩
  obtain ⟨m, h, sl, R, S, q⟩ := h
  refine wpAny_Call_Name_kw (L2.ld_glob I hg hm ?_ hdb)
  refine PySem.W.callWith_KW (h₀ := X.base) I.ok.mod.kin hk hall (L2.thn (ha.run pos pins s σ H _ I ⟨m, h, sl, R, S, (Sat.bind (R := VRs G) q)⟩) fun us s1 ⟨vs, H1, I1, r, m1, as, h1, l1, R1, ra, q1⟩ => ?_) hpl he
  refine L2.thn (hkw.run pos pins s1 σ H1 _ I1 ⟨m1, h1, sl, R1, S.mono l1, (Sat.bind (R := VRs G) q1)⟩) fun us2 s2 ⟨zs, H2, I2, rz, m2, bs, h2, l2, R2, rb, q2⟩ => ⟨I2.kIn, ?_⟩
  rw [hks]
  exact ret_call (run_fg F hgd hr tb tk I2 (fun hl => hb.to s2 us us2 I2.kIn hl) (hb.rel r rz) R2 (hgW (ra.mono l2) rb) q2)
theorem pmk_nil : L2.PK X [] (tA G Z (evs [])) := ⟨fun pos pins s σ H Q I h => (L2.pk_nil (X := X)).run pos pins s σ H Q I (by
  obtain ⟨m, h, s, R, S, q⟩ := h
  exact q m H [] (.refl m) R .nil)⟩
theorem pmk_cons {nm : Option Str} {kpos : Pos} {e : Expr} {kws : List Keyword} {g : EM} {gs : List EM} (ha : PE X e (tE G Z g)) (hr : L2.PK X kws (tA G Z (evs gs))) : L2.PK X (⟨nm, e, kpos⟩ :: kws) (tA G Z (evs (g :: gs))) :=
  ⟨fun pos pins s σ H Q I h => (L2.pk_cons ha hr).run pos pins s σ H Q I (by
    obtain ⟨m, h, s, R, S, q⟩ := h
    refine ⟨m, h, s, R, S, (Sat.bind (R := VR G) q).imp fun x H1 z => ?_⟩
    obtain ⟨m1, a, h1, l1, R1, ra, q1⟩ := z
    refine ⟨m1, h1, s, R1, S.mono l1, (Sat.bind (R := VRs G) q1).imp fun xs H2 z => ?_⟩
    obtain ⟨m2, as, h2, l2, R2, rs, q2⟩ := z
    exact q2 m2 H2 _ (.refl m2) R2 (.cons (ra.mono l2) rs))⟩
end
end Pm
/-! PmStm: the rules of statements, targets, loops, comprehensions, defs. -/
namespace Pm
open PySem PySem.Spec
open PyProof.Rows (envOfC)
open L2 (V Hp HO Cx Inv PE PT PA PS PSs PW PG PGs PI TE TT TA TS TG TGs TI St VK XK WX Ends RelV Vals upd upd_same upd_ne Takes R2 OpR CallR tOp tVar Vis Gl FnOk Room Binds It)
section
variable {X : Cx} {G : Gx} {Z : WX} {pos : Pos}

/-! ### blocks, small statements -/
theorem pms_nil : PSs X [] (tS G Z sNx) := pss_of L2.pss_nil fun D σ H h => by
  obtain ⟨m, h, s, R, S, q⟩ := h
  exact q m σ H (.refl m) R S
theorem pms_cons {st : Stmt} {rest : List Stmt} {a b : SM} (h1 : PS X st (tS G Z a)) (h2 : PSs X rest (tS G Z b)) : PSs X (st :: rest) (tS G Z (sSeq a b)) := pss_of (L2.pss_cons h1 h2) fun D σ H h => by
  obtain ⟨m, h, s, R, S, q⟩ := h
  refine ⟨m, h, s, R, S, ?_⟩
  unfold sSeq at q
  cases e : a s h with
  | nx s1 h1 =>
    rw [e] at q
    exact fun m' σ' H' x R' S' => ⟨m', h1, s1, R', S', q.mono x⟩
  | _ =>
    rw [e] at q
    exact q
theorem pms_one {st : Stmt} {a : SM} (h1 : PS X st (tS G Z a)) : PSs X [st] (tS G Z a) := L2.pss_one h1
theorem pms_no {st : Stmt} : PS X st (tS G Z sNo) := ⟨fun _ _ _ _ _ _ h => by
  obtain ⟨m, h, s, R, S, q⟩ := h
  exact q.elim⟩
theorem pmss_no {st : List Stmt} : PSs X st (tS G Z sNo) := ⟨fun _ _ _ _ _ _ h => by
  obtain ⟨m, h, s, R, S, q⟩ := h
  exact q.elim⟩
theorem pms_pass : PS X (.Pass pos) (tS G Z sNx) := ps_of L2.ps_pass fun D σ H h => by
  obtain ⟨m, h, s, R, S, q⟩ := h
  exact q m σ H (.refl m) R S
theorem pms_break : PS X (.Break pos) (tS G Z sBk) := ps_of L2.ps_break fun D σ H h => by
  obtain ⟨m, h, s, R, S, q⟩ := h
  exact q m σ H (.refl m) R S
theorem pms_continue : PS X (.Continue pos) (tS G Z sCt) := ps_of L2.ps_continue fun D σ H h => by
  obtain ⟨m, h, s, R, S, q⟩ := h
  exact q m σ H (.refl m) R S
theorem sr_read {g : EM} {k : Sl → W → AH → SR} {D : Ends} {σ : St} {H : Hp} (h : tS G Z (fun s h => (g s h).toSR s (k s)) D σ H)
    {Q : VK} (f : ∀ w v H1 m1 h1 s, VR G m1 w v → Rel G m1 h1 H1 → SlR G m1 s σ → SatS G m1 Z D (k s w h1) → Q v H1) : tE G Z g σ H Q := by
  obtain ⟨m, h, s, R, S, q⟩ := h
  refine ⟨m, h, s, R, S, (Sat.toSR (R := VR G) S q).imp fun v H1 z => ?_⟩
  obtain ⟨m1, a, h1, l1, R1, ra, q1⟩ := z
  exact f a v H1 m1 h1 s ra R1 (S.mono l1) q1
theorem pms_ret {e : Expr} {g : EM} (he : PE X e (tE G Z g)) : PS X (.Return (some e) pos) (tS G Z (sRet g)) := ps_of (L2.ps_ret he) fun D σ H h =>
  sr_read h fun w v H1 m1 h1 s r R1 S1 q => q m1 H1 v (.refl m1) R1 r
theorem pms_retN : PS X (.Return none pos) (tS G Z sRetN) := ps_of L2.ps_retN fun D σ H h => by
  obtain ⟨m, h, s, R, S, q⟩ := h
  exact q m H _ (.refl m) R rfl
theorem pms_expr {e : Expr} {g : EM} (he : PE X e (tE G Z g)) (hs : swapsWith e none pos.line X.env = pure false := by rfl) : PS X (.Expr e pos) (tS G Z (sDrop g)) := ps_of (L2.ps_expr he hs) fun D σ H h =>
  sr_read h fun w v H1 m1 h1 s r R1 S1 q => q m1 σ H1 (.refl m1) R1 S1
theorem pms_set {i : Nat} {x : Str} {e : Expr} {g : EM} {pos' : Pos} (hN : X.N.Nodup) (he : PE X e (tE G Z g)) (hi : X.N[i]? = some x := by rfl) (hx : L2.Loc X.env.scope x := by first | exact Or.inl rfl | exact Or.inr rfl) (hs : swapsWith e (some (.Name x pos')) pos.line X.env = pure false := by rfl)
    (hf : X.fn x = true ∨ X.env.scope.names.lookup x = some .local := by first | exact .inl rfl | exact .inr rfl) : PS X (.Assign [.Name x pos'] e pos) (tS G Z (sSet i g)) := ps_of (L2.ps_set hN hi hx he hs hf) fun D σ H h =>
  sr_read h fun w v H1 m1 h1 s r R1 S1 q => q m1 _ H1 (.refl m1) R1 (SlR.put (a := some w) (v := some v) ⟨v, rfl, r⟩ i S1)
theorem pms_if {c : Expr} {a b : List Stmt} {gc : CM} {ga gb : SM} (hc : PT X c (tC G Z gc)) (ha : PSs X a (tS G Z ga)) (hb : PSs X b (tS G Z gb)) : PS X (.If c a b pos) (tS G Z (sIf gc ga gb)) := ps_of (L2.ps_if hc ha hb) fun D σ H h => by
  obtain ⟨m, h, s, R, S, q⟩ := h
  refine ⟨m, h, s, R, S, (Sat.toSR (R := RB) S q).imp fun x H1 z => ?_⟩
  obtain ⟨m1, t, h1, l1, R1, ra, q1⟩ := z
  cases ra
  cases x with
  | true => exact ⟨m1, h1, s, R1, S.mono l1, q1⟩
  | false => exact ⟨m1, h1, s, R1, S.mono l1, q1⟩
def rS (G : Gx) (f : W → W → W → AH → Option AH) : L2.TSet := fun o i v H Q => ∃ m h a b c h', Rel G m h H ∧ VR G m a o ∧ VR G m b i ∧ VR G m c v ∧ f a b c h = some h' ∧ ∀ m' H', m.Le m' → Rel G m' h' H' → Q H'
theorem pms_sub {o i e : Expr} {f : W → W → W → AH → Option AH} {go gi ge : EM} {p2 : Pos} (hf : L2.PSet X (rS G f)) (he : PE X e (tE G Z ge)) (ho : PE X o (tE G Z go)) (hi : PE X i (tE G Z gi))
    (ha : ∀ v, assign (.Subscript o i p2) X.env v = (do
      let ov ← holding [v] (eval o X.env)
      let iv ← holding [v, ov] (eval i X.env)
      standAt p2
      holding [v, ov, iv] (setItem ov iv v)
      release [v, ov, iv] []) := by intro _; rfl)
    (hs : swapsWithSole [.Subscript o i p2] e pos.line X.env = pure false := by rfl) (hw : swappedStores [.Subscript o i p2] e X.env = pure none := by rfl)
    (h1 : (assignEach [.Subscript o i p2] X.env).map (·.2) = [assign (.Subscript o i p2) X.env] := by rfl) : PS X (.Assign [.Subscript o i p2] e pos) (tS G Z (sSub f ge go gi)) := ps_of (L2.ps_asg he (L2.pg_sub ho hi hf ha) hs hw h1) fun D σ H h =>
  sr_read h fun w v H1 m1 h1 s r R1 S1 q => by
    refine ⟨m1, h1, s, R1, S1, (Sat.toSR (R := VR G) S1 q).imp fun x H2 z => ?_⟩
    obtain ⟨m2, a, h2, l2, R2, ra, q2⟩ := z
    refine ⟨m2, h2, s, R2, S1.mono l2, (Sat.toSR (R := VR G) (S1.mono l2) q2).imp fun y H3 z => ?_⟩
    obtain ⟨m3, b, h3, l3, R3, rb, q3⟩ := z
    cases e4 : f a b w h3 with
    | none =>
      rw [e4] at q3
      exact q3.elim
    | some h4 =>
      rw [e4] at q3
      exact ⟨m3, h3, a, b, w, h4, R3, ra.mono l3, rb, r.mono (l2.trans l3), e4, fun m' H' x R' => q3 m' σ H' x R' (S1.mono ((l2.trans l3).trans x))⟩
def rA (G : Gx) (f : Op2) : L2.TIp := fun x y H Q => ∃ m h a b, Rel G m h H ∧ VR G m a x ∧ VR G m b y ∧ Sat G m (fun _ _ _ => False) (VR G) (ofO (f a b h)) Q
theorem pms_aug {i : Nat} {x : Str} {e : Expr} {op : Operator} {f : Op2} {g : EM} {pos' : Pos} (hN : X.N.Nodup) (ho : L2.PIp X op (rA G f)) (he : PE X e (tE G Z g)) (hi : X.N[i]? = some x := by rfl) (hx : L2.Loc X.env.scope x := by first | exact Or.inl rfl | exact Or.inr rfl)
    (hf : X.fn x = true ∨ X.env.scope.names.lookup x = some .local := by first | exact .inl rfl | exact .inr rfl) : PS X (.AugAssign (.Name x pos') op e pos) (tS G Z (sAug f i g)) := ps_of (L2.ps_aug hN hi hx he ho hf) fun D σ H h => by
  obtain ⟨m, h, s, R, S, q⟩ := h
  unfold sAug at q
  cases e0 : sget s i with
  | none =>
    rw [e0] at q
    exact q.elim
  | some w =>
    rw [e0] at q
    obtain ⟨v, e1, r⟩ := S.get e0
    refine ⟨v, e1, m, h, s, R, S, (Sat.toSR (R := VR G) S q).imp fun y H1 z => ?_⟩
    obtain ⟨m1, b, h1, l1, R1, rb, q1⟩ := z
    refine ⟨m1, h1, w, b, R1, r.mono l1, rb, ?_⟩
    cases e2 : f w b h1 with
    | none =>
      rw [e2] at q1
      exact q1.elim
    | some p =>
      rw [e2] at q1
      exact fun m' H' u x R' ru => q1 m' _ H' x R' (SlR.put (a := some p.1) (v := some u) ⟨u, rfl, ru⟩ i (S.mono (l1.trans x)))

/-! ### targets -/
def gNs : List Nat → TGs
  | [] => L2.gNil
  | i :: is => L2.gCons (L2.gName i) (gNs is)
def gT (K : PySem.W.Frag) : Tg → TG
  | .nm i => L2.gName i
  | .tp is => L2.gTup K is.length (gNs is)
def Tg.slots : Tg → List Nat
  | .nm i => [i]
  | .tp is => is
theorem pmg_nm {i : Nat} {x : Str} (hN : X.N.Nodup) (hi : X.N[i]? = some x := by rfl) (hx : L2.Loc X.env.scope x := by first | exact Or.inl rfl | exact Or.inr rfl)
    (hf : X.fn x = true ∨ X.env.scope.names.lookup x = some .local := by first | exact .inl rfl | exact .inr rfl) : PG X (.Name x pos) (gT X.K (.nm i)) := L2.pg_name hN hi hx hf
theorem pmgs_nil : PGs X [] (gNs []) := L2.pgs_nil
theorem pmgs_cons {i : Nat} {x : Str} {es : List Expr} {is : List Nat} (hN : X.N.Nodup) (h2 : PGs X es (gNs is)) (hi : X.N[i]? = some x := by rfl) (hx : L2.Loc X.env.scope x := by first | exact Or.inl rfl | exact Or.inr rfl)
    (hf : X.fn x = true ∨ X.env.scope.names.lookup x = some .local := by first | exact .inl rfl | exact .inr rfl)
    (hs : (assignEach (.Name x pos :: es) X.env).map (·.2) = assign (.Name x pos) X.env :: (assignEach es X.env).map (·.2) := by rfl) : PGs X (.Name x pos :: es) (gNs (i :: is)) := L2.pgs_cons (L2.pg_name hN hi hx hf) h2 hs
theorem pmg_tp {es : List Expr} {k : Nat} {is : List Nat} (hc : X.calm = true) (h : PGs X es (gNs is)) (hn : (assignEach es X.env).length = is.length := by rfl) (hst : (assignEach es X.env).findIdx? (·.1) = none := by rfl) : PG X (.Tuple es k pos) (gT X.K (.tp is)) := L2.pg_tup hc h hn hst
theorem wipe_in {σ : St} {i : Nat} : ∀ {vs : List Nat}, i ∈ vs → i < σ.length → (L2.wipe σ vs)[i]? = some none
  | [], h, _ => by simp at h
  | v :: vs, h, hl => by
    unfold L2.wipe
    by_cases e : v = i
    · subst e
      rw [List.getElem?_set_self (by rw [L2.wipe_length]; exact hl)]
    · rw [List.getElem?_set_ne e]
      refine wipe_in ?_ hl
      rcases List.mem_cons.mp h with z | z
      · exact absurd z.symm e
      · exact z
theorem wipe_eq {σ τ : St} {vs : List Nat} (hl : σ.length = τ.length) (h : ∀ i, i ∉ vs → σ[i]? = τ[i]?) : L2.wipe σ vs = L2.wipe τ vs := by
  apply List.ext_getElem?
  intro i
  by_cases hi : i ∈ vs
  · by_cases lt : i < σ.length
    · rw [wipe_in hi lt, wipe_in hi (hl ▸ lt)]
    · rw [List.getElem?_eq_none (by rw [L2.wipe_length]; omega), List.getElem?_eq_none (by rw [L2.wipe_length]; omega)]
  · rw [L2.wipe_out hi, L2.wipe_out hi]
    exact h i hi
theorem wipe_set {σ : St} {vs : List Nat} {i : Nat} {x : Option V} (hi : i ∈ vs) : L2.wipe (σ.set i x) vs = L2.wipe σ vs := wipe_eq (by simp) fun j hj => by
  rw [List.getElem?_set_ne]
  intro e
  exact hj (e ▸ hi)
theorem wipe_wipe {σ : St} {vs : List Nat} : L2.wipe (L2.wipe σ vs) vs = L2.wipe σ vs := wipe_eq (L2.wipe_length _ _) fun j hj => L2.wipe_out hj
theorem gNs_read {m : Mp} {H : Hp} : ∀ {is : List Nat} {ws : List W} {vs : List V} {s s1 : Sl} {σ : St} {Q : St → Hp → Prop}, VRs G m ws vs → sputs s is ws = some s1 → SlR G m s σ →
    (∀ σ1, SlR G m s1 σ1 → (∀ own, (∀ i ∈ is, i ∈ own) → L2.wipe σ1 own = L2.wipe σ own) → Q σ1 H) → gNs is vs σ H Q
  | [], _, _, s, s1, σ, Q, .nil, e, S, q => by
    have e' : s = s1 := by simpa [sputs] using e
    subst e'
    exact ⟨rfl, q σ S fun _ _ => rfl⟩
  | i :: is, w :: ws, v :: vs, s, s1, σ, Q, .cons r rs, e, S, q => by
    have e' : sputs (sput s i (some w)) is ws = some s1 := by simpa [sputs] using e
    refine ⟨_, _, rfl, gNs_read rs e' (SlR.put (a := some w) (v := some v) ⟨v, rfl, r⟩ i S) fun σ1 S1 f => q σ1 S1 fun own ho => ?_⟩
    rw [f own fun j hj => ho j (List.mem_cons_of_mem _ hj)]
    exact wipe_set (ho i List.mem_cons_self)
  | [], _, _, _, _, _, _, .cons _ _, e, _, _ => by simp [sputs] at e
  | _ :: _, _, _, _, _, _, _, .nil, e, _, _ => by simp [sputs] at e
theorem sputs_len : ∀ {is : List Nat} {ws : List W} {s s1 : Sl}, sputs s is ws = some s1 → ws.length = is.length
  | [], [], _, _, _ => rfl
  | i :: is, w :: ws, s, s1, e => by
    have e' : sputs (sput s i (some w)) is ws = some s1 := by simpa [sputs] using e
    rw [List.length_cons, List.length_cons, sputs_len e']
  | [], _ :: _, _, _, e => by simp [sputs] at e
  | _ :: _, [], _, _, e => by simp [sputs] at e
theorem titems_of {m : Mp} {h : AH} {H : Hp} (R : Rel G m h H) {l : Nat} {a : Addr} {ws : List W} (e : m.as[l]? = some a) (q : titems h l = some ws) : ∃ vs, VRs G m ws vs ∧ H a = some (.tup vs) := by
  unfold titems at q
  cases e1 : h.get l with
  | none =>
    rw [e1] at q
    cases q
  | some c =>
    rw [e1] at q
    obtain ⟨o, e2, e3⟩ := R.see e e1
    cases c with
    | tup xs =>
      cases q
      obtain ⟨vs, r, e4⟩ := e3
      exact ⟨vs, r, e4 ▸ e2⟩
    | _ => cases q
theorem litems_of {m : Mp} {h : AH} {H : Hp} (K : PySem.W.Frag) (R : Rel G m h H) {l : Nat} {a : Addr} {ws : List W} (e : m.as[l]? = some a) (q : litems h l = some ws) : ∃ vs, VRs G m ws vs ∧ L2.SqL K H a vs := by
  unfold litems at q
  cases e1 : h.get l with
  | none =>
    rw [e1] at q
    cases q
  | some c =>
    rw [e1] at q
    obtain ⟨o, e2, e3⟩ := R.see e e1
    cases c with
    | lst xs =>
      cases q
      obtain ⟨vs, r, e4⟩ := e3
      exact ⟨vs, r, .inl (.inl (e4 ▸ e2))⟩
    | _ => cases q
theorem gT_read {K : PySem.W.Frag} {m : Mp} {h : AH} {H : Hp} {t : Tg} {w : W} {v : V} {s s1 : Sl} {σ : St} {Q : St → Hp → Prop} (R : Rel G m h H) (r : VR G m w v) (e : t.put w s h = some s1) (S : SlR G m s σ)
    (q : ∀ σ1, SlR G m s1 σ1 → (∀ own, (∀ i ∈ t.slots, i ∈ own) → L2.wipe σ1 own = L2.wipe σ own) → Q σ1 H) : gT K t v σ H Q := by
  cases t with
  | nm i =>
    have e' : sput s i (some w) = s1 := by simpa [Tg.put] using e
    subst e'
    exact q _ (SlR.put (a := some w) (v := some v) ⟨v, rfl, r⟩ i S) fun own ho => wipe_set (ho i List.mem_cons_self)
  | tp is =>
    unfold Tg.put at e
    cases w with
    | ref l =>
      dsimp only at e
      cases e1 : titems h l with
      | none =>
        rw [e1] at e
        cases e
      | some ws =>
        rw [e1] at e
        obtain ⟨a, ha, rfl⟩ := r
        obtain ⟨vs, rs, hH⟩ := titems_of R ha e1
        exact ⟨a, vs, rfl, .inl (.inl hH), (vrs_len rs).symm.trans (sputs_len e), gNs_read rs e S q⟩
    | _ => cases e
theorem pms_tgt {tg e : Expr} {t : Tg} {g : EM} (he : PE X e (tE G Z g)) (hg : PG X tg (gT X.K t)) (hs : swapsWithSole [tg] e pos.line X.env = pure false := by rfl) (hw : swappedStores [tg] e X.env = pure none := by rfl)
    (h1 : (assignEach [tg] X.env).map (·.2) = [assign tg X.env] := by rfl) : PS X (.Assign [tg] e pos) (tS G Z (sTgt t g)) := ps_of (L2.ps_asg he hg hs hw h1) fun D σ H h =>
  sr_read h fun w v H1 m1 h1 s r R1 S1 q => by
    cases e4 : t.put w s h1 with
    | none =>
      rw [e4] at q
      exact q.elim
    | some s1 =>
      rw [e4] at q
      exact gT_read R1 r e4 S1 fun σ1 S2 _ => q m1 σ1 H1 (.refl m1) R1 S2
theorem pms_par {i j : Nat} {x y : Str} {a b : Expr} {ga gb : EM} {px py pt : Pos} {kt k2 pt2} (hc : X.calm = true) (hN : X.N.Nodup) (ha : PE X a (tE G Z ga)) (hb : PE X b (tE G Z gb)) (hi : X.N[i]? = some x := by rfl) (hj : X.N[j]? = some y := by rfl) (hij : i ≠ j := by decide)
    (hx : X.env.scope.names.lookup x = some .local := by rfl) (hy : X.env.scope.names.lookup y = some .local := by rfl)
    (hw : swappedStores [.Tuple [.Name x px, .Name y py] kt pt] (.Tuple [a, b] k2 pt2) X.env = pure (some [x, y]) := by rfl)
    (hs : swapsWithSole [.Tuple [.Name x px, .Name y py] kt pt] (.Tuple [a, b] k2 pt2) pos.line X.env = pure false := by rfl)
    (h1 : starEach (a :: [b]) X.env = (false, eval a X.env) :: starEach [b] X.env := by rfl) (h2 : starEach (b :: []) X.env = (false, eval b X.env) :: starEach [] X.env := by rfl) :
    PS X (.Assign [.Tuple [.Name x px, .Name y py] kt pt] (.Tuple [a, b] k2 pt2) pos) (tS G Z (sPar i j ga gb)) := ps_of (L2.ps_par hc hN hi hj hij hx hy (L2.pa_cons ha (L2.pa_cons hb L2.pa_nil h2) h1) hw hs) fun D σ H h =>
  sr_read h fun w v H1 m1 h1 s r R1 S1 q => by
    refine ⟨m1, h1, s, R1, S1, (Sat.toSR (R := VR G) S1 q).imp fun u H2 z => ?_⟩
    obtain ⟨m2, w2, h2, l2, R2, r2, q2⟩ := z
    exact ⟨v, u, rfl, q2 m2 _ H2 (.refl m2) R2 (SlR.put (a := some w2) (v := some u) ⟨u, rfl, r2⟩ j (SlR.put (a := some w) (v := some v) ⟨v, rfl, r.mono l2⟩ i (S1.mono l2)))⟩

/-! ### what is walked -/
def JR (G : Gx) (m : Mp) (M : MIt) (J : It) : Prop := ∀ m' h H i, m.Le m' → Rel G m' h H → (M.next i h = .stop → J.stop i H) ∧ ∀ x h', M.next i h = .yld x h' → J.go i H ∧ ∀ v H', J.yld i H v H' → ∃ m2, m'.Le m2 ∧ Rel G m2 h' H' ∧ VR G m2 x v
abbrev tI (G : Gx) (Z : WX) (g : IM) : TI := tX G Z (JR G) g
theorem pi_of {tg e : Expr} {t t' : TI} (h : PI X tg e t) (f : ∀ σ H Q, t' σ H Q → t σ H Q) : PI X tg e t' := ⟨fun pins s σ H Q I q => h.run pins s σ H Q I (f σ H Q q)⟩
theorem nth_get : ∀ {xs : List W} {i : Nat}, nth xs i = xs[i]?
  | [], i => rfl
  | _ :: _, 0 => rfl
  | _ :: r, i + 1 => by
    show nth r i = _
    rw [nth_get]
    simp
theorem vrs_get {m : Mp} : ∀ {ws : List W} {vs : List V} {i : Nat} {w : W}, VRs G m ws vs → ws[i]? = some w → ∃ v, vs[i]? = some v ∧ VR G m w v
  | _, _, _, _, .nil, e => by simp at e
  | w0 :: _, _ :: _, 0, w, .cons r _, e => by
    have e' : w0 = w := by simpa using e
    subst e'
    exact ⟨_, rfl, r⟩
  | _, _, i + 1, w, .cons _ t, e => by
    obtain ⟨u, h1, h2⟩ := vrs_get (i := i) (w := w) t (by simpa using e)
    exact ⟨u, by simpa using h1, h2⟩
theorem vrs_app {m : Mp} : ∀ {ws : List W} {vs : List V} {w : W} {v : V}, VRs G m ws vs → VR G m w v → VRs G m (ws ++ [w]) (vs ++ [v])
  | _, _, _, _, .nil, r => .cons r .nil
  | _, _, _, _, .cons q t, r => .cons q (vrs_app t r)
theorem vrs_none {m : Mp} {ws : List W} {vs : List V} {i : Nat} (r : VRs G m ws vs) (e : ws[i]? = none) : vs.length ≤ i := by
  rw [← vrs_len r]
  exact List.getElem?_eq_none_iff.mp e
theorem jr_lst {K : PySem.W.Frag} {m : Mp} {l : Nat} {a : Addr} (ha : m.as[l]? = some a) : JR G m (.lst l) (L2.Itl K a) := fun m' h H i x R => by
  unfold MIt.next
  dsimp only
  cases e : litems h l with
  | none => exact ⟨(fun z => nomatch z), (fun _ _ z => nomatch z)⟩
  | some ws =>
    obtain ⟨vs, r, hq⟩ := litems_of K R (x.at ha) e
    dsimp only
    rw [nth_get]
    cases e2 : ws[i]? with
    | none => exact ⟨fun _ => ⟨vs, hq, vrs_none r e2⟩, (fun _ _ z => nomatch z)⟩
    | some w =>
      refine ⟨(fun z => nomatch z), fun x h' z => ?_⟩
      cases z
      obtain ⟨v, e3, rv⟩ := vrs_get r e2
      refine ⟨⟨vs, v, hq, e3⟩, fun v' H' y => ?_⟩
      obtain ⟨eH, f⟩ := y
      subst eH
      have e5 := (f vs hq).symm.trans e3
      cases e5
      exact ⟨m', .refl m', R, rv⟩
theorem jr_tup {K : PySem.W.Frag} {m : Mp} {l : Nat} {a : Addr} (ha : m.as[l]? = some a) : JR G m (.tup l) (L2.Itt K a) := fun m' h H i x R => by
  unfold MIt.next
  dsimp only
  cases e : titems h l with
  | none => exact ⟨(fun z => nomatch z), (fun _ _ z => nomatch z)⟩
  | some ws =>
    obtain ⟨vs, r, hH⟩ := titems_of R (x.at ha) e
    have hq : L2.SqT K H a vs := .inl (.inl hH)
    dsimp only
    rw [nth_get]
    cases e2 : ws[i]? with
    | none => exact ⟨fun _ => ⟨vs, hq, vrs_none r e2⟩, (fun _ _ z => nomatch z)⟩
    | some w =>
      refine ⟨(fun z => nomatch z), fun x h' z => ?_⟩
      cases z
      obtain ⟨v, e3, rv⟩ := vrs_get r e2
      refine ⟨⟨vs, v, hq, e3⟩, fun v' H' y => ?_⟩
      obtain ⟨eH, f⟩ := y
      subst eH
      have e5 := (f vs hq).symm.trans e3
      cases e5
      exact ⟨m', .refl m', R, rv⟩
theorem jr_rng {m : Mp} {lo : Int} {n : Nat} : JR G m (.rng lo n) (L2.Itr lo n) := fun m' h H i x R => by
  unfold MIt.next
  dsimp only
  cases e : Nat.blt i n with
  | true =>
    refine ⟨(fun z => nomatch z), fun x h' z => ?_⟩
    cases z
    refine ⟨(show i < n by simpa using e), fun v H' y => ?_⟩
    obtain ⟨eH, ev⟩ := y
    subst eH
    subst ev
    exact ⟨m', .refl m', R, rfl⟩
  | false =>
    refine ⟨fun _ => ?_, (fun _ _ z => nomatch z)⟩
    have e' : ¬ i < n := fun z => by
      have : Nat.blt i n = true := by simpa using z
      rw [e] at this
      cases this
    exact Nat.le_of_not_lt e'
theorem jr_enu {K : PySem.W.Frag} {m : Mp} {l : Nat} {a : Addr} (ha : m.as[l]? = some a) : JR G m (.enu l) (L2.Ite K a) := fun m' h H i x R => by
  unfold MIt.next
  dsimp only
  cases e : litems h l with
  | none => exact ⟨(fun z => nomatch z), (fun _ _ z => nomatch z)⟩
  | some ws =>
    obtain ⟨vs, r, hq⟩ := litems_of K R (x.at ha) e
    dsimp only
    rw [nth_get]
    cases e2 : ws[i]? with
    | none => exact ⟨fun _ => ⟨vs, hq, vrs_none r e2⟩, (fun _ _ z => nomatch z)⟩
    | some w =>
      refine ⟨(fun z => nomatch z), fun x h' z => ?_⟩
      cases z
      obtain ⟨v, e3, rv⟩ := vrs_get r e2
      refine ⟨⟨vs, v, hq, e3⟩, fun v' H' y => ?_⟩
      obtain ⟨T, x1, rfl, nT, rfl, f⟩ := y
      have e5 := (f vs hq).symm.trans e3
      cases e5
      refine ⟨m'.snoc T, m'.le_snoc T, R.new (c := .tup [.int i, w]) nT ⟨_, .cons rfl (.cons (rv.mono (m'.le_snoc T)) .nil), rfl⟩, T, ?_, rfl⟩
      show (m'.as ++ [T])[h.n]? = some T
      rw [← R.len]
      exact List.getElem?_concat_length
theorem jr_zip {K : PySem.W.Frag} {m : Mp} {l l2 : Nat} {a b : Addr} (ha : m.as[l]? = some a) (hb : m.as[l2]? = some b) : JR G m (.zip l l2) (L2.Itz K a b) := fun m' h H i x R => by
  unfold MIt.next
  dsimp only
  cases e : litems h l with
  | none => exact ⟨(fun z => nomatch z), (fun _ _ z => nomatch z)⟩
  | some ws =>
    obtain ⟨vs, r, hq⟩ := litems_of K R (x.at ha) e
    cases e' : litems h l2 with
    | none => exact ⟨(fun z => nomatch z), (fun _ _ z => nomatch z)⟩
    | some us =>
      obtain ⟨ys, r', hq'⟩ := litems_of K R (x.at hb) e'
      dsimp only
      rw [nth_get, nth_get]
      cases e2 : ws[i]? with
      | none => exact ⟨fun _ => ⟨vs, ys, hq, hq', .inl (vrs_none r e2)⟩, (fun _ _ z => nomatch z)⟩
      | some w =>
        cases e2' : us[i]? with
        | none => exact ⟨fun _ => ⟨vs, ys, hq, hq', .inr (vrs_none r' e2')⟩, (fun _ _ z => nomatch z)⟩
        | some w' =>
          refine ⟨(fun z => nomatch z), fun x h' z => ?_⟩
          cases z
          obtain ⟨v, e3, rv⟩ := vrs_get r e2
          obtain ⟨u, e3', rv'⟩ := vrs_get r' e2'
          refine ⟨⟨vs, ys, v, u, hq, hq', e3, e3'⟩, fun v' H' y => ?_⟩
          obtain ⟨T, x1, x2, rfl, nT, rfl, f, f'⟩ := y
          have e5 := (f vs hq).symm.trans e3
          have e5' := (f' ys hq').symm.trans e3'
          cases e5
          cases e5'
          refine ⟨m'.snoc T, m'.le_snoc T, R.new (c := .tup [w, w']) nT ⟨_, .cons (rv.mono (m'.le_snoc T)) (.cons (rv'.mono (m'.le_snoc T)) .nil), rfl⟩, T, ?_, rfl⟩
          show (m'.as ++ [T])[h.n]? = some T
          rw [← R.len]
          exact List.getElem?_concat_length
/-! ### for -/
theorem pms_for {tg iter : Expr} {body : List Stmt} {gi : IM} {t : Tg} {gb : SM} (hp : PassesOwn (model X.prog X.w) X.A X.env X.xe) (hc : X.calm = true) (hi : PI X tg iter (tI G Z gi)) (hg : PG X tg (gT X.K t)) (hb : PSs X body (tS G Z gb))
    (hs : ∀ x, foldedSetIterable iter X.env x = pure x := by intro _; rfl) : PS X (.For tg iter body [] pos) (tS G Z (sFor gi t gb)) := ps_of (L2.ps_for hp hc hi hg hb hs) fun D σ H h => by
  obtain ⟨m, h, s, R, S, q⟩ := h
  refine ⟨m, h, s, R, S, (Sat.toSR (R := JR G) S q).imp fun J H1 z => ?_⟩
  obtain ⟨m1, M, h1, l1, R1, jr, q1⟩ := z
  refine ⟨fun i f σ H => ∃ m2 h2 s2, m1.Le m2 ∧ Rel G m2 h2 H ∧ SlR G m2 s2 σ ∧ SatS G m2 Z D (forLoop M t gb f i s2 h2), ⟨1000001, m1, h1, s, .refl m1, R1, S.mono l1, q1⟩, ?_⟩
  rintro i f σ' H' ⟨m2, h2, s2, l2, R2, S2, q2⟩
  cases f with
  | zero => exact q2.elim
  | succ f =>
    rw [forLoop_s] at q2
    obtain ⟨j1, j2⟩ := jr m2 h2 H' i l2 R2
    cases e : M.next i h2 with
    | no =>
      rw [e] at q2
      exact q2.elim
    | stop =>
      rw [e] at q2
      exact .inl ⟨j1 e, q2 m2 σ' H' (.refl m2) R2 S2⟩
    | yld x h3 =>
      rw [e] at q2
      dsimp only at q2
      obtain ⟨jg, jy⟩ := j2 x h3 e
      refine .inr ⟨jg, _, fun σ3 H3 z => ⟨f, Nat.lt_succ_self f, z⟩, fun v H3 y => ?_⟩
      obtain ⟨m3, l3, R3, rv⟩ := jy v H3 y
      cases e4 : t.put x s2 h3 with
      | none =>
        rw [e4] at q2
        exact q2.elim
      | some s3 =>
        rw [e4] at q2
        dsimp only at q2
        refine gT_read R3 rv e4 (S2.mono l3) fun σ4 S4 _ => ⟨m3, h3, s3, R3, S4, ?_⟩
        have q3 := q2.mono l3
        cases e5 : gb s3 h3 with
        | nx s5 h5 =>
          rw [e5] at q3
          exact fun m6 σ6 H6 l6 R6 S6 => ⟨m6, h5, s5, (l2.trans l3).trans l6, R6, S6, q3.mono l6⟩
        | ct s5 h5 =>
          rw [e5] at q3
          exact fun m6 σ6 H6 l6 R6 S6 => ⟨m6, h5, s5, (l2.trans l3).trans l6, R6, S6, q3.mono l6⟩
        | bk s5 h5 =>
          rw [e5] at q3
          exact q3
        | rt _ _ =>
          rw [e5] at q3
          exact q3
        | exc _ _ _ _ =>
          rw [e5] at q3
          exact q3
        | no =>
          rw [e5] at q3
          exact q3
/-! ### while -/
theorem pms_while {c : Expr} {body : List Stmt} {gc : CM} {gb : SM} (hp : PassesOwn (model X.prog X.w) X.A X.env X.xe) (hc : PT X c (tC G Z gc)) (hb : PSs X body (tS G Z gb)) : PS X (.While c body [] pos) (tS G Z (sWhile gc gb)) := ps_of (L2.ps_while hp hc hb) fun D σ H h => by
  obtain ⟨m, h, s, R, S, q⟩ := h
  refine ⟨fun f σ H => ∃ m2 h2 s2, Rel G m2 h2 H ∧ SlR G m2 s2 σ ∧ SatS G m2 Z D (whileLoop gc gb f s2 h2), ⟨1000001, m, h, s, R, S, q⟩, ?_⟩
  rintro f σ' H' ⟨m2, h2, s2, R2, S2, q2⟩
  cases f with
  | zero => exact q2.elim
  | succ f =>
    rw [whileLoop_s] at q2
    refine ⟨m2, h2, s2, R2, S2, ?_⟩
    cases e : gc s2 h2 with
    | no =>
      rw [e] at q2
      exact q2
    | exc x d h3 =>
      rw [e] at q2
      exact fun m3 H3 ad l3 R3 ed => q2 m3 σ' H3 ad l3 R3 (S2.mono l3) ed
    | ok b h3 =>
      rw [e] at q2
      intro m3 H3 b' l3 R3 eb
      cases eb
      cases b with
      | false => exact q2 m3 σ' H3 l3 R3 (S2.mono l3)
      | true =>
        refine ⟨_, fun σ4 H4 z => ⟨f, Nat.lt_succ_self f, z⟩, m3, h3, s2, R3, S2.mono l3, ?_⟩
        have q3 := SatS.mono l3 q2
        dsimp only at q3
        cases e5 : gb s2 h3 with
        | nx s5 h5 =>
          rw [e5] at q3
          exact fun m6 σ6 H6 l6 R6 S6 => ⟨m6, h5, s5, R6, S6, q3.mono l6⟩
        | ct s5 h5 =>
          rw [e5] at q3
          exact fun m6 σ6 H6 l6 R6 S6 => ⟨m6, h5, s5, R6, S6, q3.mono l6⟩
        | bk s5 h5 =>
          rw [e5] at q3
          exact q3
        | rt _ _ =>
          rw [e5] at q3
          exact q3
        | exc _ _ _ _ =>
          rw [e5] at q3
          exact q3
        | no =>
          rw [e5] at q3
          exact q3
/-! ### what may be walked -/
def iZip (a b : EM) : IM := fun σ h => (a σ h).bind fun x h1 => (b σ h1).bind fun y h2 => match x, y with
  | .ref l, .ref l2 => (match litems h2 l, litems h2 l2 with
    | some _, some _ => .ok (.zip l l2) h2
    | _, _ => .no)
  | _, _ => .no
theorem small_lo {i : Int} (h : smallI i = true) : -(2 ^ 62) ≤ i := by
  have h1 := (Bool.and_eq_true_iff.mp h).1
  rw [ilt_iff, decide_eq_true_iff] at h1
  omega
theorem small_hi {i : Int} (h : smallI i = true) : i < 2 ^ 62 := by
  have h1 := (Bool.and_eq_true_iff.mp h).2
  rw [ilt_iff, decide_eq_true_iff] at h1
  omega
def iBoth (K : PySem.W.Frag) (tl : TE) : TI := fun σ H R => tl σ H fun x H1 => ∃ a, x = .ref a ∧ ((∃ xs, L2.SqL K H1 a xs) ∧ R (L2.Itl K a) H1 ∨ (∃ xs, L2.SqT K H1 a xs) ∧ R (L2.Itt K a) H1)
theorem pi_both {tg l : Expr} {tl : TE} (hl : PE X l tl) : PI X tg l (iBoth X.K tl) := by
  refine ⟨fun pins s σ H R I h => ?_⟩
  refine L2.thn (hl.run pins s σ H _ I h) fun v s1 ⟨x, H1, I1, r1, a, e, q⟩ => ?_
  subst e
  cases r1
  have nw : ∀ b ∈ [s1.heap.objs.size], L2.FpOk X pins H1 b := fun b hb => by
    rw [List.mem_singleton.mp hb]
    exact I1.fpOk (Nat.le_refl _) (I1.hok.fresh (Nat.le_refl _))
  rcases q with ⟨⟨xs, hq⟩, q⟩ | ⟨⟨xs, hq⟩, q⟩
  · obtain ⟨its, rv, pl, hz⟩ := I1.list hq
    refine wpAny_pyIter_list pl.isList ?_
    exact ⟨s1.heap.objs.size, [s1.heap.objs.size], _, _, H1, rfl, I1.kept (t' := s1.toks) fun b o e => Heap.get?_push_of_some _ e, L2.turn_list a _, ⟨_, Heap.get?_push_size _ rfl, rfl, rfl⟩, nw, q⟩
  · obtain ⟨its, rv, pl, hz⟩ := I1.tuple hq
    refine wpAny_pyIter_tuple (show s1.heap.IsTuple a its.toArray from pl) ?_
    exact ⟨s1.heap.objs.size, [s1.heap.objs.size], _, _, H1, rfl, I1.kept (t' := s1.toks) fun b o e => Heap.get?_push_of_some _ e, L2.turn_tuple a _, ⟨_, Heap.get?_push_size _ rfl, rfl, rfl⟩, nw, q⟩
theorem pmi_seq {tg l : Expr} {g : EM} (hl : PE X l (tE G Z g)) : PI X tg l (tI G Z (iSeq g)) := pi_of (pi_both hl) fun σ H Q h => by
  obtain ⟨m, h, s, R, S, q⟩ := h
  refine ⟨m, h, s, R, S, (Sat.bind (R := VR G) q).imp fun x H1 z => ?_⟩
  obtain ⟨m1, w, h1, l1, R1, ra, q1⟩ := z
  cases w with
  | ref l =>
    obtain ⟨a, ha, rfl⟩ := ra
    refine ⟨a, rfl, ?_⟩
    dsimp only at q1
    cases e : litems h1 l with
    | some ws =>
      rw [e] at q1
      obtain ⟨vs, r, hq⟩ := litems_of X.K R1 ha e
      exact .inl ⟨⟨vs, hq⟩, q1 m1 H1 _ (.refl m1) R1 (jr_lst ha)⟩
    | none =>
      rw [e] at q1
      dsimp only at q1
      cases e2 : titems h1 l with
      | none =>
        rw [e2] at q1
        exact q1.elim
      | some ws =>
        rw [e2] at q1
        obtain ⟨vs, r, hq⟩ := titems_of R1 ha e2
        exact .inr ⟨⟨vs, .inl (.inl hq)⟩, q1 m1 H1 _ (.refl m1) R1 (jr_tup ha)⟩
  | _ => exact q1.elim
theorem pmi_rng1 {tg a : Expr} {g : EM} {p : Pos} (hg : Gl X "range") (hm : X.mg "range" = none) (ha : PE X a (tE G Z g)) (h1 : starEach (a :: []) X.env = (false, eval a X.env) :: starEach [] X.env := by rfl) (hs : starEach [a] X.env = [(false, eval a X.env)] := by rfl) :
    PI X tg (.Call (.Name "range" p) [a] [] pos) (tI G Z (iRng1 g)) := pi_of (L2.pi_range1 hg hm (L2.pa_cons ha L2.pa_nil h1) hs) fun σ H Q h => by
  obtain ⟨m, h, s, R, S, q⟩ := h
  refine ⟨m, h, s, R, S, (Sat.bind (R := VR G) q).imp fun x H1 z => ?_⟩
  obtain ⟨m1, w, h1, l1, R1, ra, q1⟩ := z
  cases w with
  | int j =>
    dsimp only at q1
    cases e : smallI j with
    | false =>
      rw [e] at q1
      exact q1.elim
    | true =>
      rw [e] at q1
      cases ra
      exact ⟨j, rfl, small_lo e, small_hi e, q1 m1 H1 _ (.refl m1) R1 jr_rng⟩
  | _ => exact q1.elim
theorem pmi_rng2 {tg a b : Expr} {ga gb : EM} {p : Pos} (hg : Gl X "range") (hm : X.mg "range" = none) (ha : PE X a (tE G Z ga)) (hb : PE X b (tE G Z gb)) (h1 : starEach (a :: [b]) X.env = (false, eval a X.env) :: starEach [b] X.env := by rfl) (h2 : starEach (b :: []) X.env = (false, eval b X.env) :: starEach [] X.env := by rfl)
    (hs : starEach [a, b] X.env = [(false, eval a X.env), (false, eval b X.env)] := by rfl) (hs2 : starEach [b] X.env = [(false, eval b X.env)] := by rfl) :
    PI X tg (.Call (.Name "range" p) [a, b] [] pos) (tI G Z (iRng2 ga gb)) := pi_of (L2.pi_range2 hg hm (L2.pa_cons ha (L2.pa_cons hb L2.pa_nil h2) h1) hs hs2) fun σ H Q h => by
  obtain ⟨m, h, s, R, S, q⟩ := h
  refine ⟨m, h, s, R, S, (Sat.bind (R := VR G) q).imp fun x H1 z => ?_⟩
  obtain ⟨m1, w, h1, l1, R1, ra, q1⟩ := z
  refine ⟨m1, h1, s, R1, S.mono l1, (Sat.bind (R := VR G) q1).imp fun y H2 z => ?_⟩
  obtain ⟨m2, w', h2, l2, R2, rb, q2⟩ := z
  cases w with
  | int i =>
    cases w' with
    | int j =>
      dsimp only at q2
      cases e : smallI i && smallI j with
      | false =>
        rw [e] at q2
        exact q2.elim
      | true =>
        rw [e] at q2
        cases ra
        cases rb
        obtain ⟨e1, e2⟩ := Bool.and_eq_true_iff.mp e
        exact ⟨i, j, rfl, ⟨small_lo e1, small_hi e1, small_lo e2, small_hi e2⟩, q2 m2 H2 _ (.refl m2) R2 jr_rng⟩
    | _ => exact q2.elim
  | _ => exact q2.elim
theorem pmi_enu {a : Expr} {g : EM} {p tpos : Pos} {elts : List Expr} {kk : Nat} (hg : Gl X "enumerate") (hm : X.mg "enumerate" = none) (ha : PE X a (tE G Z g)) (h1 : starEach (a :: []) X.env = (false, eval a X.env) :: starEach [] X.env := by rfl) (hs : starEach [a] X.env = [(false, eval a X.env)] := by rfl) :
    PI X (.Tuple elts kk tpos) (.Call (.Name "enumerate" p) [a] [] pos) (tI G Z (iEnu g)) := pi_of (L2.pi_enum hg hm (L2.pa_cons ha L2.pa_nil h1) hs) fun σ H Q h => by
  obtain ⟨m, h, s, R, S, q⟩ := h
  refine ⟨m, h, s, R, S, (Sat.bind (R := VR G) q).imp fun x H1 z => ?_⟩
  obtain ⟨m1, w, h1, l1, R1, ra, q1⟩ := z
  cases w with
  | ref l =>
    obtain ⟨a, ha, rfl⟩ := ra
    dsimp only at q1
    cases e : litems h1 l with
    | some ws =>
      rw [e] at q1
      obtain ⟨vs, r, hq⟩ := litems_of X.K R1 ha e
      exact ⟨a, vs, rfl, hq, q1 m1 H1 _ (.refl m1) R1 (jr_enu ha)⟩
    | none =>
      rw [e] at q1
      exact q1.elim
  | _ => exact q1.elim
theorem pmi_zip {a b : Expr} {ga gb : EM} {p tpos : Pos} {elts : List Expr} {kk : Nat} (hg : Gl X "zip") (hm : X.mg "zip" = none) (ha : PE X a (tE G Z ga)) (hb : PE X b (tE G Z gb)) (h1 : starEach (a :: [b]) X.env = (false, eval a X.env) :: starEach [b] X.env := by rfl) (h2 : starEach (b :: []) X.env = (false, eval b X.env) :: starEach [] X.env := by rfl)
    (hpl : (backTo pos (starEach [b] X.env)).any (·.1) = false := by rfl) :
    PI X (.Tuple elts kk tpos) (.Call (.Name "zip" p) [a, b] [] pos) (tI G Z (iZip ga gb)) := pi_of (L2.pi_zip hg hm (L2.pa_cons ha (L2.pa_cons hb L2.pa_nil h2) h1) h1 hpl) fun σ H Q h => by
  obtain ⟨m, h, s, R, S, q⟩ := h
  refine ⟨m, h, s, R, S, (Sat.bind (R := VR G) q).imp fun x H1 z => ?_⟩
  obtain ⟨m1, w, h1, l1, R1, ra, q1⟩ := z
  refine ⟨m1, h1, s, R1, S.mono l1, (Sat.bind (R := VR G) q1).imp fun y H2 z => ?_⟩
  obtain ⟨m2, w', h2, l2, R2, rb, q2⟩ := z
  cases w with
  | ref l =>
    cases w' with
    | ref l' =>
      obtain ⟨a, ha, rfl⟩ := ra
      obtain ⟨b, hb, rfl⟩ := rb
      dsimp only at q2
      cases e : litems h2 l with
      | none =>
        rw [e] at q2
        exact q2.elim
      | some ws =>
        cases e' : litems h2 l' with
        | none =>
          rw [e, e'] at q2
          exact q2.elim
        | some us =>
          rw [e, e'] at q2
          obtain ⟨vs, r, hq⟩ := litems_of X.K R2 (l2.at ha) e
          obtain ⟨ys, r', hq'⟩ := litems_of X.K R2 hb e'
          exact ⟨a, b, vs, ys, rfl, hq, hq', q2 m2 H2 _ (.refl m2) R2 (jr_zip (l2.at ha) hb)⟩
    | _ => exact q2.elim
  | _ => exact q2.elim
/-! ### comprehensions -/
abbrev Z0 : WX := fun _ _ _ _ => False
theorem lc_read {K : PySem.W.Frag} {gi : IM} {t : Tg} {own : List Nat} {gc : CM} {ge : EM} (ho : ∀ i ∈ t.slots, i ∈ own) {σ : St} {H : Hp} {Q : VK} (h : tE G Z (eLc gi t own gc ge) σ H Q) : L2.tLc (tI G Z gi) (gT K t) (tC G Z0 gc) (tE G Z0 ge) own σ H Q := by
  obtain ⟨m, h, s, R, S, q⟩ := h
  refine ⟨m, h, s, R, S, (Sat.bind (R := JR G) q).imp fun J H1 z => ?_⟩
  obtain ⟨m1, M, h1, l1, R1, jr, q1⟩ := z
  intro D nD
  have S1 := (S.mono l1).wipe own
  refine ⟨fun i f H => ∃ m2 h2, (m1.snoc D).Le m2 ∧ Rel G m2 h2 H ∧ Sat G m2 (fun c d H => Z c d σ H) (VR G) (lcLoop M t own gc ge h1.n (swipe s own) f i h2) Q,
    ⟨1000001, m1.snoc D, _, .refl _, R1.new (c := .lst []) nD ⟨[], .nil, rfl⟩, q1.mono (m1.le_snoc D)⟩, ?_⟩
  have hD : (m1.snoc D).as[h1.n]? = some D := by
    show (m1.as ++ [D])[h1.n]? = some D
    rw [← R1.len]
    exact List.getElem?_concat_length
  rintro i f H2 ⟨m2, h2, l2, R2, q2⟩
  cases f with
  | zero => exact q2.elim
  | succ f =>
    rw [lcLoop_s] at q2
    obtain ⟨j1, j2⟩ := jr m2 h2 H2 i ((m1.le_snoc D).trans l2) R2
    cases e : M.next i h2 with
    | no =>
      rw [e] at q2
      exact q2.elim
    | stop =>
      rw [e] at q2
      exact .inl ⟨j1 e, q2 m2 H2 _ (.refl m2) R2 ⟨D, l2.at hD, rfl⟩⟩
    | yld x h3 =>
      rw [e] at q2
      dsimp only at q2
      obtain ⟨jg, jy⟩ := j2 x h3 e
      refine .inr ⟨jg, _, fun H3 z => ⟨f, Nat.lt_succ_self f, z⟩, fun v H3 y => ?_⟩
      obtain ⟨m3, l3, R3, rv⟩ := jy v H3 y
      have le3 := (m1.le_snoc D).trans (l2.trans l3)
      cases e4 : t.put x (swipe s own) h3 with
      | none =>
        rw [e4] at q2
        exact q2.elim
      | some s3 =>
        rw [e4] at q2
        dsimp only at q2
        have q3 := q2.mono l3
        refine gT_read R3 rv e4 (S1.mono le3) fun σ4 S4 hw => ⟨by rw [hw own ho, wipe_wipe], m3, h3, s3, R3, S4, ?_⟩
        cases e5 : gc s3 h3 with
        | no =>
          rw [e5] at q3
          exact q3.elim
        | exc _ _ _ =>
          rw [e5] at q3
          exact q3.elim
        | ok b h5 =>
          rw [e5] at q3
          intro m5 H5 b' l5 R5 eb
          cases eb
          cases b with
          | false => exact ⟨m5, h5, (l2.trans l3).trans l5, R5, q3.mono l5⟩
          | true =>
            dsimp only at q3
            refine ⟨m5, h5, s3, R5, S4.mono l5, ?_⟩
            have q5 := q3.mono l5
            cases e6 : ge s3 h5 with
            | no =>
              rw [e6] at q5
              exact q5.elim
            | exc _ _ _ =>
              rw [e6] at q5
              exact q5.elim
            | ok w h7 =>
              rw [e6] at q5
              intro m7 H7 u l7 R7 ru
              have d7 := (l2.trans l3).trans (l5.trans l7)
              dsimp only at q5
              cases e8 : h7.get h1.n with
              | none =>
                rw [e8] at q5
                exact q5.elim
              | some c =>
                rw [e8] at q5
                cases c with
                | lst acc =>
                  dsimp only at q5
                  obtain ⟨o, eo, cr⟩ := R7.see (d7.at hD) e8
                  obtain ⟨vs, rs, rfl⟩ := cr
                  cases e9 : Nat.blt acc.length 1000000 with
                  | false =>
                    rw [e9] at q5
                    exact q5.elim
                  | true =>
                    rw [e9] at q5
                    refine ⟨vs, eo, ?_, m7, _, d7, R7.put (c' := .lst (acc ++ [w])) (d7.at hD) e8 rfl ⟨vs ++ [u], vrs_app rs ru, rfl⟩, q5.mono l7⟩
                    · rw [← vrs_len rs]
                      have lt : acc.length < 1000000 := by simpa using e9
                      exact Nat.lt_of_lt_of_le lt (by rw [sizeLine_eq]; decide)
                | _ => exact q5.elim
abbrev Blk (X : Cx) (scope : Scope) (P : Cx → Prop) : Prop := ∀ (s : Shared) (H : Hp) (C : Addr) (cl : List (Str × Addr)) (fp : List Addr), P (X.blk s H scope (compEnvC scope cl C X.env) fp)
theorem pmts_nil : L2.PTs X [] (tC G Z cYes) := ⟨fun pins s σ H Q I h => L2.pts_nil.run pins s σ H Q I (by
  obtain ⟨m, h, s, R, S, q⟩ := h
  exact q m H true (.refl m) R rfl)⟩
theorem pmts_one {c : Expr} {g : CM} (h : PT X c (tC G Z g)) : L2.PTs X [c] (tC G Z g) := L2.pts_one h
theorem pm_lc {elt tg iter : Expr} {ifs : List Expr} {scope : Scope} (own : List (Str × Nat)) {gi : IM} {t : Tg} {gc : CM} {ge : EM} (hc : X.calm = true) (hN : X.N.Nodup) (hi : PI X tg iter (tI G Z gi)) (ok : L2.BlkOk X.N X.env.scope scope own)
    (hg : Blk X scope fun Y => PG Y tg (gT Y.K t)) (ht : Blk X scope fun Y => L2.PTs Y ifs (tC G Z0 gc)) (he : Blk X scope fun Y => PE Y elt (tE G Z0 ge)) (ho : ∀ i ∈ t.slots, i ∈ own.map (·.2) := by decide) (hs : ∀ x, foldedSetIterable iter X.env x = pure x := by intro _; rfl) :
    PE X (.ListComp elt [⟨tg, iter, ifs, 0⟩] scope pos) (tE G Z (eLc gi t (own.map (·.2)) gc ge)) := pe_of (L2.pe_lc hc hN hi ok hg ht he hs) fun _ _ _ h => lc_read ho h
theorem pms_setLc {i : Nat} {y : Str} {py : Pos} {elt tg iter : Expr} {ifs : List Expr} {scope : Scope} (own : List (Str × Nat)) {gi : IM} {t : Tg} {gc : CM} {ge : EM} {spos : Pos} (hc : X.calm = true) (hN : X.N.Nodup)
    (hi : PI X tg iter (tI G Z gi)) (ok : L2.BlkOk X.N X.env.scope scope own) (hg : Blk X scope fun Y => PG Y tg (gT Y.K t)) (ht : Blk X scope fun Y => L2.PTs Y ifs (tC G Z0 gc)) (he : Blk X scope fun Y => PE Y elt (tE G Z0 ge))
    (hsw : swapsWith (.ListComp elt [⟨tg, iter, ifs, 0⟩] scope pos) (some (.Name y py)) spos.line X.env = pure true) (hy : X.N[i]? = some y := by rfl) (hyl : X.env.scope.names.lookup y = some .local := by rfl) (ho : ∀ i ∈ t.slots, i ∈ own.map (·.2) := by decide) (hs : ∀ x, foldedSetIterable iter X.env x = pure x := by intro _; rfl) :
    PS X (.Assign [.Name y py] (.ListComp elt [⟨tg, iter, ifs, 0⟩] scope pos) spos) (tS G Z (sSet i (eLc gi t (own.map (·.2)) gc ge))) := ps_of (L2.ps_setLc hc hN hy hyl hsw hi ok hg ht he hs) fun D σ H h =>
  lc_read ho (sr_read h fun w v H1 m1 h1 s r R1 S1 q => q m1 _ H1 (.refl m1) R1 (SlR.put (a := some w) (v := some v) ⟨v, rfl, r⟩ i S1))
end
/-! ### a def keeps its meaning -/
theorem start_rel {G : Gx} {m : Mp} {N : List Str} : ∀ {ws : List W} {vs : List V}, VRs G m ws vs → SlR G m (start N.length ws) (L2.start N vs) := fun {ws vs} r => by
  rw [start_eqC]
  unfold startC L2.start
  rw [vrs_len r]
  generalize N.length - vs.length = n
  induction r with
  | nil =>
    show SlR G m (List.replicate n none) (List.replicate n none)
    induction n with
    | zero => exact .nil
    | succ n ih => exact .cons trivial ih
  | cons q _ ih => exact .cons ⟨_, rfl, q⟩ ih
theorem callM_len {n k : Nat} {b : SM} {ws : List W} {h : AH} (e : ws.length ≠ k) : callM n k b ws h = .no := by
  unfold callM
  cases q : Nat.beq ws.length k with
  | true => exact absurd (Nat.eq_of_beq_eq_true q) e
  | false => rfl
theorem sat_body {G : Gx} {m : Mp} {E : XK} {Q : VK} {n k : Nat} {b : SM} {ws : List W} {h : AH} (q : Sat G m E (VR G) (callM n k b ws h) Q) : SatS G m (fun c d _ H => E c d H) { nx := fun _ H' => Q .non H', rt := Q } (b (start n ws) h) := by
  unfold callM at q
  cases e : Nat.beq ws.length k with
  | false =>
    rw [e] at q
    exact q.elim
  | true =>
    rw [e] at q
    dsimp only at q
    cases e2 : b (start n ws) h with
    | nx _ _ =>
      rw [e2] at q
      exact fun m' _ H' x R _ => q m' H' .non x R rfl
    | rt _ _ =>
      rw [e2] at q
      exact q
    | bk _ _ =>
      rw [e2] at q
      exact q.elim
    | ct _ _ =>
      rw [e2] at q
      exact q.elim
    | exc _ _ _ _ =>
      rw [e2] at q
      exact fun m' _ H' ad x R _ ea => q m' H' ad x R ea
    | no =>
      rw [e2] at q
      exact q.elim
theorem fn_ok {G : Gx} {P : Program} {w : World} {K : PySem.W.Frag} {mg : Str → Option Value} {x qual : Str} {st : Stmt} {f : Addr} {fd : FuncData} {N ps : List Str} {k : Nat} {b : SM} (F : L2.Fun K x qual st f fd) (S : L2.FnScope N ps (L2.defScope st))
    (hb : ∀ (base : Heap) (cdv : Value) (A : Around) (outer : List Env) (s : Shared) (H : Hp) (E : XK), A.guards = some [] → Room k (A.deeper (envOfC qual (L2.defScope st) s.heap.objs.size f cdv)) → Tbs G base mg →
      PSs (L2.cxOf (L2.CX P w) P w K mg base N qual (L2.defScope st) f cdv A outer s H E) (L2.defBody st) (tS G (fun c d _ H => E c d H) b)) : FnG G P w K mg (k + 1) f fd ps (callM N.length ps.length b) where
  len := fun ws h z => Decidable.byContradiction fun y => z (callM_len y)
  run := fun base A outer s H args us vs Q E m h ws hg hr tb e0 hbi r R rw q => by
    obtain ⟨oc, od, kV, doc, pm, an, cdv, ct, osl, rfl, lk, hcd⟩ := F.ex
    have hl : ws.length = ps.length := Decidable.byContradiction fun z => q.ne (callM_len z)
    exact LamX.run_ofS lk hcd S hr e0 hbi r (by rw [← hl]; exact (vrs_len rw).symm) fun hr' => ⟨_, hb base cdv A outer s H E hg hr' tb, m, h, _, R, start_rel rw, sat_body q⟩
end Pm
/-! PmOps: numbers, comparisons of numbers, lists and tuples, their methods. -/
namespace Pm
open PySem PySem.Spec
open L2 (V Hp HO Cx Inv PE PT PA PS PSs PW PG PGs PI TE TT TA TS TG TGs TI St VK XK WX Ends RelV Vals upd upd_same upd_ne Takes R2 OpR CallR tOp tVar Vis Gl FnOk Room Binds It)
section
variable {X : Cx} {G : Gx} {Z : WX} {pos : Pos}
theorem opr_of {f : Value → Value → Sem Value} {r r' : R2} (h : OpR X f r) (g : ∀ x y H Q, r' x y H Q → r x y H Q) : OpR X f r' := fun pins s σ H x y v u Q I rx ry q => h pins s σ H x y v u Q I rx ry (g x y H Q q)
theorem unr_of {f : Value → Sem Value} {r r' : V → Hp → VK → Prop} (h : L2.UnR X f r) (g : ∀ x H Q, r' x H Q → r x H Q) : L2.UnR X f r' := fun pins s σ H x v Q I rx q => h pins s σ H x v Q I rx (g x H Q q)
theorem callr_of {f : Value} {r r' : List V → Hp → VK → Prop} (h : CallR X f r) (g : ∀ xs H Q, r' xs H Q → r xs H Q) : CallR X f r' := fun pins s σ H xs us Q I rx q => h pins s σ H xs us Q I rx (g xs H Q q)
theorem callr_or {f : Value} {r r' : List V → Hp → VK → Prop} (h : CallR X f r) (h' : CallR X f r') : CallR X f (fun xs H Q => r xs H Q ∨ r' xs H Q) := fun pins s σ H xs us Q I rx q => q.elim (h pins s σ H xs us Q I rx) (h' pins s σ H xs us Q I rx)
theorem ixr_of {r r' : R2} (h : L2.IxR X r) (g : ∀ x y H Q, r' x y H Q → r x y H Q) : L2.IxR X r' := fun a b pins s σ H x y v u Q I rx ry q => h a b pins s σ H x y v u Q I rx ry (g x y H Q q)
theorem pset_of {t t' : L2.TSet} (h : L2.PSet X t) (g : ∀ o i v H Q, t' o i v H Q → t o i v H Q) : L2.PSet X t' := fun pins s σ H o i v ov iv u Q I ro ri rv q => h pins s σ H o i v ov iv u Q I ro ri rv (g o i v H Q q)

/-! ### places in a list -/
theorem ixAt_n {n : Nat} {i : Int} {j : Nat} (h : ixAt n i = some j) : L2.ixN n i = some j ∧ j < n := by
  unfold ixAt at h
  unfold L2.ixN
  cases i with
  | ofNat k =>
    dsimp only at h
    cases e : Nat.blt k n with
    | false =>
      rw [e] at h
      cases h
    | true =>
      rw [e] at h
      cases h
      have lt : j < n := by simpa using e
      have l2 : (Int.ofNat j) < (n : Int) := by simpa using lt
      rw [if_pos (by simp), if_pos l2]
      exact ⟨rfl, lt⟩
  | negSucc k =>
    dsimp only at h
    cases e : Nat.blt k n with
    | false =>
      rw [e] at h
      cases h
    | true =>
      rw [e] at h
      cases h
      have lt : k < n := by simpa using e
      rw [if_neg (by omega), if_pos (by omega)]
      refine ⟨congrArg some ?_, by omega⟩
      omega
/-! ### + - * // % ** -/
def wt : SD → Nat
  | .str x => x.length
  | .cat d e => wt d + wt e
  | _ => 20000000
theorem vrs_apps {m : Mp} {ws : List W} {vs : List V} (r : VRs G m ws vs) : ∀ {ws' : List W} {vs' : List V}, VRs G m ws' vs' → VRs G m (ws ++ ws') (vs ++ vs') := fun {ws' vs'} r' => by
  induction r with
  | nil => exact r'
  | cons q _ ih => exact .cons q ih
theorem or_add : OpR X (binaryOp .Add) (rO G oAdd) := opr_of (L2.op_add.or L2.op_cat) fun x y H Q h => by
  obtain ⟨m, h, a, b, R, ra, rb, q⟩ := h
  cases a with
  | int i =>
    cases b with
    | int j => exact .inl ⟨i, j, ra, rb, q m H _ (.refl m) R rfl⟩
    | sym k a c => exact .inl ⟨i, _, ra, rb, q m H _ (.refl m) R (by
        show V.int (i + (a * G.ρ k + c)) = V.int (a * G.ρ k + (i + c))
        exact congrArg V.int (by omega))⟩
    | _ => exact q.elim
  | sym k a c =>
    cases b with
    | int j => exact .inl ⟨_, j, ra, rb, q m H _ (.refl m) R (by
        show V.int (a * G.ρ k + c + j) = V.int (a * G.ρ k + (c + j))
        exact congrArg V.int (by omega))⟩
    | _ => exact q.elim
  | ref l =>
    cases b with
    | ref l2 =>
      obtain ⟨a, ha, rfl⟩ := ra
      obtain ⟨b, hb, rfl⟩ := rb
      unfold oAdd at q
      dsimp only at q
      cases e1 : h.get l with
      | none =>
        rw [e1] at q
        exact q.elim
      | some c1 =>
        cases e2 : h.get l2 with
        | none =>
          rw [e1, e2] at q
          cases c1 <;> exact q.elim
        | some c2 =>
          rw [e1, e2] at q
          cases c1 with
          | lst xs =>
            cases c2 with
            | lst ys =>
              dsimp only at q
              cases e3 : Nat.ble (xs.length + ys.length) 1000000 with
              | false =>
                rw [e3] at q
                exact q.elim
              | true =>
                rw [e3] at q
                obtain ⟨_, o1, vs, r1, rfl⟩ := R.see ha e1
                obtain ⟨_, o2, us, r2, rfl⟩ := R.see hb e2
                exact .inr ⟨a, b, vs, us, rfl, rfl, o1, o2, by rw [← vrs_len r1, ← vrs_len r2]; exact line_ok e3, fun p np => new_sat (c := .lst (xs ++ ys)) R np ⟨vs ++ us, (vrs_apps r1 r2).mono (m.le_snoc p), rfl⟩ q⟩
            | _ => exact q.elim
          | _ => exact q.elim
    | _ => exact q.elim
  | _ => exact q.elim
theorem or_sub : OpR X (binaryOp .Sub) (rO G oSub) := opr_of L2.op_sub fun x y H Q h => by
  obtain ⟨m, h, a, b, R, ra, rb, q⟩ := h
  cases a with
  | int i =>
    cases b with
    | int j => exact ⟨i, j, ra, rb, q m H _ (.refl m) R rfl⟩
    | sym k a c => exact ⟨i, _, ra, rb, q m H _ (.refl m) R (by
        show V.int (i - (a * G.ρ k + c)) = V.int (-a * G.ρ k + (i - c))
        rw [Int.neg_mul]
        exact congrArg V.int (by omega))⟩
    | _ => exact q.elim
  | sym k a c =>
    cases b with
    | int j => exact ⟨_, j, ra, rb, q m H _ (.refl m) R (by
        show V.int (a * G.ρ k + c - j) = V.int (a * G.ρ k + (c - j))
        exact congrArg V.int (by omega))⟩
    | _ => exact q.elim
  | _ => exact q.elim
theorem reps_vrs {m : Mp} {ws : List W} {vs : List V} (r : VRs G m ws vs) : ∀ n, VRs G m (reps n ws) (List.replicate n vs).flatten
  | 0 => .nil
  | n + 1 => vrs_apps r (reps_vrs r n)
theorem or_mul : OpR X (binaryOp .Mult) (rO G oMul) := opr_of ((L2.op_mulW.or L2.op_mul).or L2.op_rep) fun x y H Q h => by
  obtain ⟨m, h, a, b, R, ra, rb, q⟩ := h
  cases a with
  | int i =>
    cases b with
    | int j =>
      unfold oMul at q
      dsimp only at q
      cases e : bitsOk i j with
      | false =>
        rw [e] at q
        exact q.elim
      | true =>
        rw [e] at q
        exact .inl (.inl ⟨i, j, ra, rb, (show i.natAbs.log2 + j.natAbs.log2 < 1000000 by simpa [bitsOk] using e), q m H _ (.refl m) R rfl⟩)
    | sym k a c =>
      unfold oMul at q
      dsimp only at q
      cases e : shortI i with
      | false =>
        rw [e] at q
        exact q.elim
      | true =>
        rw [e] at q
        have lt : i.natAbs < 18446744073709551616 := by simpa [shortI] using e
        exact .inl (.inr ⟨i, _, ra, rb, .inl (by constructor <;> omega), q m H _ (.refl m) R (by
          show V.int (i * (a * G.ρ k + c)) = V.int (i * a * G.ρ k + i * c)
          rw [Int.mul_add, Int.mul_assoc])⟩)
    | _ => exact q.elim
  | ref l =>
    cases b with
    | int n =>
      obtain ⟨a, ha, rfl⟩ := ra
      unfold oMul at q
      dsimp only at q
      cases e1 : h.get l with
      | none =>
        rw [e1] at q
        exact q.elim
      | some c1 =>
        rw [e1] at q
        cases c1 with
        | lst xs =>
          dsimp only at q
          cases e3 : Nat.ble n.natAbs 1000000 && Nat.ble (xs.length * n.toNat) 1000000 with
          | false =>
            rw [e3] at q
            exact q.elim
          | true =>
            rw [e3] at q
            obtain ⟨b1, b2⟩ := Bool.and_eq_true_iff.mp e3
            have n1 : n.natAbs ≤ 1000000 := Nat.le_of_ble_eq_true b1
            obtain ⟨_, o1, vs, r1, rfl⟩ := R.see ha e1
            exact .inr ⟨a, n, vs, rfl, rb, o1, by omega, by omega, by rw [← vrs_len r1]; exact line_ok b2, fun p np => new_sat (c := .lst (reps n.toNat xs)) R np ⟨_, (reps_vrs r1 n.toNat).mono (m.le_snoc p), rfl⟩ q⟩
        | _ => exact q.elim
    | _ => exact q.elim
  | _ => exact q.elim
theorem or_fdiv : OpR X (binaryOp .FloorDiv) (rO G oFdiv) := opr_of L2.op_fdivW fun x y H Q h => by
  obtain ⟨m, h, a, b, R, ra, rb, q⟩ := h
  cases a with
  | int i =>
    cases b with
    | int j =>
      unfold oFdiv at q
      dsimp only at q
      cases e : ilt 0 j && Nat.blt j.natAbs.log2 9000 with
      | false =>
        rw [e] at q
        exact q.elim
      | true =>
        rw [e] at q
        obtain ⟨b1, b2⟩ := Bool.and_eq_true_iff.mp e
        rw [ilt_iff, decide_eq_true_iff] at b1
        exact ⟨i, j, ra, rb, ⟨b1, by simpa using b2⟩, q m H _ (.refl m) R rfl⟩
    | _ => exact q.elim
  | _ => exact q.elim
theorem or_mod : OpR X (binaryOp .Mod) (rO G oMod) := opr_of L2.op_mod fun x y H Q h => by
  obtain ⟨m, h, a, b, R, ra, rb, q⟩ := h
  cases a with
  | int i =>
    cases b with
    | int j =>
      unfold oMod at q
      dsimp only at q
      cases e : ilt 0 j with
      | false =>
        rw [e] at q
        exact q.elim
      | true =>
        rw [e] at q
        rw [ilt_iff, decide_eq_true_iff] at e
        exact ⟨i, j, ra, rb, e, q m H _ (.refl m) R rfl⟩
    | _ => exact q.elim
  | _ => exact q.elim
theorem or_pow : OpR X (binaryOp .Pow) (rO G oPow) := opr_of (L2.opI (C := fun i j => 0 ≤ j ∧ (Builtin.Int.intBits i : Int) * j ≤ 2 ^ 27) (g := fun i j => i ^ j.toNat) fun i j _ _ _ _ _ hc q => PyProof.Rows.pow_int hc.1 hc.2 q) fun x y H Q h => by
  obtain ⟨m, h, a, b, R, ra, rb, q⟩ := h
  cases a with
  | int i =>
    cases b with
    | int j =>
      unfold oPow at q
      dsimp only at q
      cases e : ile 0 j && ile ((Builtin.Int.intBits i : Int) * j) 134217728 with
      | false =>
        rw [e] at q
        exact q.elim
      | true =>
        rw [e] at q
        obtain ⟨b1, b2⟩ := Bool.and_eq_true_iff.mp e
        rw [ile_iff, decide_eq_true_iff] at b1 b2
        exact ⟨i, j, ra, rb, ⟨b1, b2⟩, q m H _ (.refl m) R rfl⟩
    | _ => exact q.elim
  | _ => exact q.elim
theorem ur_neg : L2.UnR X (unaryOp .USub) (rU G oNeg) := unr_of L2.un_neg fun x H Q h => by
  obtain ⟨m, h, a, R, ra, q⟩ := h
  cases a with
  | int i => exact ⟨i, ra, q m H _ (.refl m) R rfl⟩
  | sym k a c => exact ⟨_, ra, q m H _ (.refl m) R (by
      show V.int (-(a * G.ρ k + c)) = V.int (-a * G.ρ k + -c)
      rw [Int.neg_mul]
      exact congrArg V.int (by omega))⟩
  | _ => exact q.elim
/-! ### order of numbers -/
theorem hi_ok (k : Nat) (a c : Int) : a * G.ρ k + c ≤ hiI a c := by
  obtain ⟨h0, h1⟩ := G.ρ0 k
  cases a with
  | ofNat n =>
    have := Int.mul_le_mul_of_nonneg_left h1 (Int.natCast_nonneg n)
    show Int.ofNat n * G.ρ k + c ≤ Int.ofNat n * 1000000000000000000000000000000 + c
    exact Int.add_le_add_right this c
  | negSucc n =>
    have : Int.negSucc n * G.ρ k ≤ 0 := Int.mul_nonpos_of_nonpos_of_nonneg (Int.le_of_lt (Int.negSucc_lt_zero n)) h0
    show Int.negSucc n * G.ρ k + c ≤ c
    omega
theorem lo_ok (k : Nat) (a c : Int) : loI a c ≤ a * G.ρ k + c := by
  obtain ⟨h0, h1⟩ := G.ρ0 k
  cases a with
  | ofNat n =>
    have : 0 ≤ Int.ofNat n * G.ρ k := Int.mul_nonneg (Int.natCast_nonneg n) h0
    show c ≤ Int.ofNat n * G.ρ k + c
    omega
  | negSucc n =>
    have := Int.mul_le_mul_of_nonpos_left (Int.le_of_lt (Int.negSucc_lt_zero n)) h1
    show Int.negSucc n * 1000000000000000000000000000000 + c ≤ Int.negSucc n * G.ρ k + c
    exact Int.add_le_add_right this c
theorem wlt_ok {m : Mp} {a b : W} {t : Bool} {x y : V} (h : wlt a b = some t) (ra : VR G m a x) (rb : VR G m b y) : ∃ i j, x = .int i ∧ y = .int j ∧ t = decide (i < j) := by
  cases a with
  | int i =>
    cases b with
    | int j =>
      cases h
      exact ⟨i, j, ra, rb, ilt_iff i j⟩
    | sym k a c =>
      refine ⟨i, _, ra, rb, ?_⟩
      have h1 := hi_ok (G := G) k a c
      have h2 := lo_ok (G := G) k a c
      unfold wlt at h
      dsimp only at h
      rw [ilt_iff, ile_iff] at h
      split at h
      · rename_i e
        cases h
        have e' := of_decide_eq_true e
        exact (decide_eq_true (by omega)).symm
      · split at h
        · rename_i e
          cases h
          have e' := of_decide_eq_true e
          exact (decide_eq_false (by omega)).symm
        · cases h
    | _ => cases h
  | sym k a c =>
    cases b with
    | int j =>
      refine ⟨_, j, ra, rb, ?_⟩
      have h1 := hi_ok (G := G) k a c
      have h2 := lo_ok (G := G) k a c
      unfold wlt at h
      dsimp only at h
      rw [ilt_iff, ile_iff] at h
      split at h
      · rename_i e
        cases h
        have e' := of_decide_eq_true e
        exact (decide_eq_true (by omega)).symm
      · split at h
        · rename_i e
          cases h
          have e' := of_decide_eq_true e
          exact (decide_eq_false (by omega)).symm
        · cases h
    | _ => cases h
  | _ => cases h
theorem not_lt_dec (i j : Int) : (!decide (i < j)) = decide (j ≤ i) := by
  by_cases h : i < j
  · rw [decide_eq_true h, decide_eq_false (by omega)]
    rfl
  · rw [decide_eq_false h, decide_eq_true (by omega)]
    rfl
theorem or_lt : OpR X (compareOp .Lt) (rO G oLt) := opr_of L2.op_lt fun x y H Q h => by
  obtain ⟨m, h, a, b, R, ra, rb, q⟩ := h
  unfold oLt at q
  cases e : wlt a b with
  | none =>
    rw [e] at q
    exact q.elim
  | some t =>
    rw [e] at q
    obtain ⟨i, j, rfl, rfl, rfl⟩ := wlt_ok e ra rb
    exact ⟨i, j, rfl, rfl, q m H _ (.refl m) R rfl⟩
theorem or_gt : OpR X (compareOp .Gt) (rO G oGt) := opr_of L2.op_gt fun x y H Q h => by
  obtain ⟨m, h, a, b, R, ra, rb, q⟩ := h
  unfold oGt at q
  cases e : wlt b a with
  | none =>
    rw [e] at q
    exact q.elim
  | some t =>
    rw [e] at q
    obtain ⟨i, j, rfl, rfl, rfl⟩ := wlt_ok e rb ra
    exact ⟨j, i, rfl, rfl, q m H _ (.refl m) R rfl⟩
theorem or_le : OpR X (compareOp .LtE) (rO G oLe) := opr_of L2.op_le fun x y H Q h => by
  obtain ⟨m, h, a, b, R, ra, rb, q⟩ := h
  unfold oLe at q
  cases e : wlt b a with
  | none =>
    rw [e] at q
    exact q.elim
  | some t =>
    rw [e] at q
    obtain ⟨i, j, rfl, rfl, rfl⟩ := wlt_ok e rb ra
    exact ⟨j, i, rfl, rfl, q m H _ (.refl m) R (congrArg V.bl (not_lt_dec i j).symm)⟩
theorem or_ge : OpR X (compareOp .GtE) (rO G oGe) := opr_of L2.op_ge fun x y H Q h => by
  obtain ⟨m, h, a, b, R, ra, rb, q⟩ := h
  unfold oGe at q
  cases e : wlt a b with
  | none =>
    rw [e] at q
    exact q.elim
  | some t =>
    rw [e] at q
    obtain ⟨i, j, rfl, rfl, rfl⟩ := wlt_ok e ra rb
    exact ⟨i, j, rfl, rfl, q m H _ (.refl m) R (congrArg V.bl (not_lt_dec i j).symm)⟩
/-! ### is -/
theorem is_read {x y : V} {H : Hp} {m : Mp} {h : AH} {a b : W} {t : W} {h' : AH} (e : oIs a b h = some (t, h')) (ra : VR G m a x) (rb : VR G m b y) :
    h' = h ∧ ((∃ p q, x = .bl p ∧ y = .bl q ∧ t = .bl (decide (p = q))) ∨ (y = .non ∧ t = .bl (decide (x = .non)))) := by
  cases b with
  | bl q =>
    cases a with
    | bl p =>
      cases e
      cases ra
      cases rb
      exact ⟨rfl, .inl ⟨p, q, rfl, rfl, congrArg W.bl (by cases p <;> cases q <;> rfl)⟩⟩
    | _ => cases e
  | non =>
    cases rb
    cases a with
    | non =>
      cases e
      cases ra
      exact ⟨rfl, .inr ⟨rfl, rfl⟩⟩
    | bl p =>
      cases e
      cases ra
      exact ⟨rfl, .inr ⟨rfl, congrArg W.bl (decide_eq_false (fun z => nomatch z)).symm⟩⟩
    | int p =>
      cases e
      cases ra
      exact ⟨rfl, .inr ⟨rfl, congrArg W.bl (decide_eq_false (fun z => nomatch z)).symm⟩⟩
    | sym _ _ _ =>
      cases e
      cases ra
      exact ⟨rfl, .inr ⟨rfl, congrArg W.bl (decide_eq_false (fun z => nomatch z)).symm⟩⟩
    | txt _ =>
      cases e
      cases ra
      exact ⟨rfl, .inr ⟨rfl, congrArg W.bl (decide_eq_false (fun z => nomatch z)).symm⟩⟩
    | ref _ =>
      cases e
      obtain ⟨_, _, rfl⟩ := ra
      exact ⟨rfl, .inr ⟨rfl, congrArg W.bl (decide_eq_false (fun z => nomatch z)).symm⟩⟩
    | _ => cases e
  | _ => cases a <;> cases e
theorem or_is : OpR X (compareOp .Is) (rO G oIs) := opr_of (L2.op_isBl.or L2.op_isN) fun x y H Q h => by
  obtain ⟨m, h, a, b, R, ra, rb, q⟩ := h
  cases e : oIs a b h with
  | none =>
    rw [e] at q
    exact q.elim
  | some p =>
    obtain ⟨t, h'⟩ := p
    rw [e] at q
    obtain ⟨rfl, ⟨p, p', rfl, rfl, rfl⟩ | ⟨rfl, rfl⟩⟩ := is_read (H := H) e ra rb
    · exact .inl ⟨p, p', rfl, rfl, q m H _ (.refl m) R rfl⟩
    · exact .inr ⟨rfl, q m H _ (.refl m) R rfl⟩
theorem or_isNot : OpR X (compareOp .IsNot) (rO G oIsNot) := opr_of (L2.op_notBl.or L2.op_notN) fun x y H Q h => by
  obtain ⟨m, h, a, b, R, ra, rb, q⟩ := h
  unfold oIsNot at q
  cases e : oIs a b h with
  | none =>
    rw [e] at q
    exact q.elim
  | some p =>
    obtain ⟨t, h'⟩ := p
    rw [e] at q
    obtain ⟨rfl, ⟨p, p', rfl, rfl, rfl⟩ | ⟨rfl, rfl⟩⟩ := is_read (H := H) e ra rb
    · exact .inl ⟨p, p', rfl, rfl, q m H _ (.refl m) R rfl⟩
    · exact .inr ⟨rfl, q m H _ (.refl m) R rfl⟩
/-! ### subscripts -/
theorem vrs_ints {m : Mp} : ∀ ns : List Int, VRs G m (ns.map W.int) (ns.map V.int)
  | [] => .nil
  | _ :: r => .cons rfl (vrs_ints r)
theorem at_ok {m : Mp} {ws : List W} {vs : List V} {i : Int} {j : Nat} {w : W} (r : VRs G m ws vs) (e : ixAt ws.length i = some j) (e2 : nth ws j = some w) : ∃ v, L2.atI vs i = some v ∧ VR G m w v := by
  obtain ⟨v, h1, h2⟩ := vrs_get r (nth_get ▸ e2)
  refine ⟨v, ?_, h2⟩
  unfold L2.atI
  rw [← vrs_len r, (ixAt_n e).1]
  exact h1
theorem ix_read (hK : X.K = G.K) {x y : V} {H : Hp} {Q : VK} (h : rO G oIx x y H Q) : L2.rIxL X.K x y H Q ∨ L2.rIxT X.K x y H Q := by
  obtain ⟨m, h, a, b, R, ra, rb, q⟩ := h
  cases a with
  | ref l =>
    cases b with
    | int i =>
      obtain ⟨a, ha, rfl⟩ := ra
      cases rb
      unfold oIx at q
      dsimp only at q
      cases e1 : h.get l with
      | none =>
        rw [e1] at q
        exact q.elim
      | some c1 =>
        rw [e1] at q
        have fin : ∀ {xs : List W} {vs : List V}, VRs G m xs vs → Sat G m (fun _ _ _ => False) (VR G) (ofO (match ixAt xs.length i with
            | some j => (match nth xs j with
              | some v => some (v, h)
              | none => none)
            | none => none)) Q → ∃ v, L2.atI vs i = some v ∧ Q v H := fun {xs vs} r z => by
          cases e2 : ixAt xs.length i with
          | none =>
            rw [e2] at z
            exact z.elim
          | some j =>
            rw [e2] at z
            dsimp only at z
            cases e3 : nth xs j with
            | none =>
              rw [e3] at z
              exact z.elim
            | some w =>
              rw [e3] at z
              obtain ⟨v, h1, h2⟩ := at_ok r e2 e3
              exact ⟨v, h1, z m H v (.refl m) R h2⟩
        cases c1 with
        | lst xs =>
          obtain ⟨_, o1, vs, r1, rfl⟩ := R.see ha e1
          obtain ⟨v, h1, h2⟩ := fin r1 q
          exact .inl ⟨a, vs, i, v, rfl, rfl, .inl (.inl o1), h1, h2⟩
        | tup xs =>
          obtain ⟨_, o1, vs, r1, rfl⟩ := R.see ha e1
          obtain ⟨v, h1, h2⟩ := fin r1 q
          exact .inr ⟨a, vs, i, v, rfl, rfl, .inl (.inl o1), h1, h2⟩
        | _ => exact q.elim
    | _ => exact q.elim
  | scr =>
    cases b with
    | int i =>
      cases ra
      cases rb
      unfold oIx at q
      dsimp only at q
      cases e2 : ixAt (h.s.map W.int).length i with
      | none =>
        rw [e2] at q
        exact q.elim
      | some j =>
        rw [e2] at q
        dsimp only at q
        cases e3 : nth (h.s.map W.int) j with
        | none =>
          rw [e3] at q
          exact q.elim
        | some w =>
          rw [e3] at q
          obtain ⟨v, h1, h2⟩ := at_ok (vrs_ints (m := m) h.s) e2 e3
          exact .inl ⟨G.sa, _, i, v, rfl, rfl, hK ▸ R.scr.sq, h1, q m H v (.refl m) R h2⟩
    | _ => exact q.elim
  | _ => exact q.elim
theorem ixr_or {r r' : R2} (h : L2.IxR X r) (h' : L2.IxR X r') : L2.IxR X (fun x y H Q => r x y H Q ∨ r' x y H Q) := fun a b pins s σ H x y v u Q I rx ry q e => q.elim (fun z => h a b pins s σ H x y v u Q I rx ry z e) (fun z => h' a b pins s σ H x y v u Q I rx ry z e)
theorem pm_ix {a b : Expr} {ga gb : EM} (ha : PE X a (tE G Z ga)) (hb : PE X b (tE G Z gb)) (hK : X.K = G.K := by rfl) (hs : L2.PlainIx b := by exact fun _ _ => rfl) : PE X (.Subscript a b pos) (tE G Z (eOp2 oIx ga gb)) :=
  pe_of (L2.pe_ix (r := rO G oIx) (ixr_of (ixr_or L2.ix_list L2.ix_tup) fun x y H Q h => ix_read hK h) ha hb hs) fun _ _ _ => op2_read
theorem vrs_set {m : Mp} {w : W} {v : V} (r : VR G m w v) : ∀ {ws : List W} {vs : List V} (i : Nat), VRs G m ws vs → VRs G m (ws.set i w) (vs.set i v)
  | _, _, _, .nil => .nil
  | _, _, 0, .cons _ t => .cons r t
  | _, _, i + 1, .cons q t => .cons q (vrs_set r i t)
theorem ps_setIx : L2.PSet X (rS G oSetIx) := pset_of L2.set_list fun o i v H Q h => by
  obtain ⟨m, h, a, b, c, h', R, ra, rb, rc, e, q⟩ := h
  cases a with
  | ref l =>
    cases b with
    | int k =>
      obtain ⟨a, ha, rfl⟩ := ra
      cases rb
      unfold oSetIx at e
      dsimp only at e
      cases e1 : h.get l with
      | none =>
        rw [e1] at e
        cases e
      | some c1 =>
        rw [e1] at e
        cases c1 with
        | lst xs =>
          dsimp only at e
          cases e2 : ixAt xs.length k with
          | none =>
            rw [e2] at e
            cases e
          | some j =>
            rw [e2] at e
            cases e
            obtain ⟨_, o1, vs, r1, rfl⟩ := R.see ha e1
            refine ⟨a, vs, k, j, rfl, rfl, o1, by rw [← vrs_len r1]; exact (ixAt_n e2).1, q m _ (.refl m) (R.put (c' := .lst (xs.set j c)) ha e1 rfl ⟨_, vrs_set rc j r1, rfl⟩)⟩
        | _ => cases e
    | _ => cases e
  | _ => cases e
/-! ### slices -/
theorem cut_ok (n d : Nat) : ∀ o, cut n d o = HT.sIx n d o
  | none => rfl
  | some (.ofNat k) => by
    show min k n = if (k : Int) < 0 then ((k : Int) + n).toNat else min (k : Int).toNat n
    rw [if_neg (by omega)]
    rfl
  | some (.negSucc k) => by
    show n - (k + 1) = if Int.negSucc k < 0 then (Int.negSucc k + n).toNat else min (Int.negSucc k).toNat n
    rw [if_pos (Int.negSucc_lt_zero k)]
    omega
abbrev RO : Mp → Option Int → Option Int → Prop := fun _ a b => a = b
theorem pmo_none : L2.PO X none (tX G Z RO oNone) := ⟨fun pins s σ H Q I h => L2.po_none.run pins s σ H Q I (by
  obtain ⟨m, h, s, R, S, q⟩ := h
  exact q m H _ (.refl m) R rfl)⟩
theorem pmo_some {e : Expr} {g : EM} (he : PE X e (tE G Z g)) : L2.PO X (some e) (tX G Z RO (oSome g)) := ⟨fun pins s σ H Q I h => (L2.po_some he).run pins s σ H Q I (by
  obtain ⟨m, h, s, R, S, q⟩ := h
  refine ⟨m, h, s, R, S, (Sat.bind (R := VR G) q).imp fun v H1 z => ?_⟩
  obtain ⟨m1, w, h1, l1, R1, ra, q1⟩ := z
  cases w with
  | int i => exact ⟨i, ra, q1 m1 H1 _ (.refl m1) R1 rfl⟩
  | _ => exact q1.elim)⟩
theorem vrs_cut {m : Mp} {ws : List W} {vs : List V} (r : VRs G m ws vs) (lo hi : Option Int) : VRs G m (cutW ws lo hi) (L2.cutV vs lo hi) := by
  unfold cutW L2.cutV
  rw [vrs_len r, cut_ok, cut_ok]
  exact vrs_take _ (vrs_drop _ r)
where
  vrs_take {m : Mp} : ∀ {ws : List W} {vs : List V} (n : Nat), VRs G m ws vs → VRs G m (ws.take n) (vs.take n)
    | _, _, 0, _ => .nil
    | _, _, _ + 1, .nil => .nil
    | _, _, n + 1, .cons r t => .cons r (vrs_take n t)
  vrs_drop {m : Mp} : ∀ {ws : List W} {vs : List V} (n : Nat), VRs G m ws vs → VRs G m (ws.drop n) (vs.drop n)
    | _, _, 0, r => r
    | _, _, _ + 1, .nil => .nil
    | _, _, n + 1, .cons _ t => vrs_drop n t
theorem pm_cut {e : Expr} {lo hi : Option Expr} {p2 : Pos} {g : EM} {gl gh : OM} (he : PE X e (tE G Z g)) (hl : L2.PO X lo (tX G Z RO gl)) (hh : L2.PO X hi (tX G Z RO gh)) (hK : X.K = G.K := by rfl) : PE X (.Subscript e (.Slice lo hi none p2) pos) (tE G Z (eCut g gl gh)) :=
  pe_of (L2.pe_slice (L2.sl_list.or L2.sl_tup) he hl hh) fun σ H Q h => by
    obtain ⟨m, h, s, R, S, q⟩ := h
    refine ⟨m, h, s, R, S, (Sat.bind (R := VR G) q).imp fun v H1 z => ?_⟩
    obtain ⟨m1, w, h1, l1, R1, ra, q1⟩ := z
    refine ⟨m1, h1, s, R1, S.mono l1, (Sat.bind (R := RO) q1).imp fun a H2 z => ?_⟩
    obtain ⟨m2, a', h2, l2, R2, rfl, q2⟩ := z
    refine ⟨m2, h2, s, R2, S.mono (l1.trans l2), (Sat.bind (R := RO) q2).imp fun b H3 z => ?_⟩
    obtain ⟨m3, b', h3, l3, R3, rfl, q3⟩ := z
    have ra3 := ra.mono (l2.trans l3)
    cases w with
    | ref l =>
      obtain ⟨ad, ha, rfl⟩ := ra3
      unfold oCut at q3
      dsimp only at q3
      cases e1 : h3.get l with
      | none =>
        rw [e1] at q3
        exact q3.elim
      | some c1 =>
        rw [e1] at q3
        cases c1 with
        | lst xs =>
          obtain ⟨_, o1, vs, r1, rfl⟩ := R3.see ha e1
          exact .inl ⟨ad, vs, rfl, .inl (.inl o1), fun p np => new_sat (c := .lst (cutW xs a' b')) R3 np ⟨_, (vrs_cut r1 a' b').mono (m3.le_snoc p), rfl⟩ q3⟩
        | tup xs =>
          obtain ⟨_, o1, vs, r1, rfl⟩ := R3.see ha e1
          dsimp only at q3
          cases e2 : Nat.beq (cut xs.length 0 a') 0 && Nat.beq (cut xs.length xs.length b') xs.length with
          | true =>
            rw [e2] at q3
            exact q3.elim
          | false =>
            rw [e2] at q3
            refine .inr ⟨ad, vs, rfl, .inl (.inl o1), fun z => ?_, fun p np => new_sat (c := .tup (cutW xs a' b')) R3 np ⟨_, (vrs_cut r1 a' b').mono (m3.le_snoc p), rfl⟩ q3⟩
            rw [← vrs_len r1, ← cut_ok, ← cut_ok] at z
            rw [z.1, z.2] at e2
            simp at e2
        | _ => exact q3.elim
    | scr =>
      cases ra3
      exact .inl ⟨G.sa, _, rfl, hK ▸ R3.scr.sq, fun p np => new_sat (c := .lst (cutW (h3.s.map W.int) a' b')) R3 np ⟨_, (vrs_cut (vrs_ints h3.s) a' b'), rfl⟩ q3⟩
    | _ => exact q3.elim
end
end Pm
/-! PmBi: built-in functions and methods. -/
namespace Pm
open PySem PySem.Spec
open L2 (V Hp HO Cx Inv PE PT PA PS PSs PW TE TT TA TS St VK XK WX Ends RelV Vals upd upd_same upd_ne Takes R2 OpR CallR MtR tOp tVar Vis Gl Room Binds)
section
variable {X : Cx} {G : Gx} {Z : WX} {pos : Pos}
theorem kit_tab : ∀ a b : Ty, L2.kitB a.nm b.nm = some (a.isT b) := by
  intro a b
  cases a <;> cases b <;> decide +kernel
/-! ### calls of built-ins -/
theorem pm_callB {id : String} {f : OpN} {g : EM} {gs : List EM} {x : Str} {p : Pos} {e : Expr} {es : List Expr} (hc : CallR X (.builtin id) (rN G f)) (hg : Gl X x) (hm : X.mg x = none) (hv : bootBuiltins x = some (.builtin id)) (ha : PA X (e :: es) (tA G Z (evs (g :: gs))))
    (hn : x ≠ "__name__" := by decide) (hdb : (x == ("__debug__" : Str)) = false := by decide)
    (he : starEach (e :: es) X.env = (false, eval e X.env) :: starEach es X.env := by rfl) (hpl : (backTo pos (starEach es X.env)).any (·.1) = false := by rfl) : PE X (.Call (.Name x p) (e :: es) [] pos) (tE G Z (eOpN f (g :: gs))) :=
  pe_of (L2.pe_callB hc hg hm hv ha hn hdb he hpl) fun σ H Q h => opN_read h
theorem pm_callTy {T : String} {f : OpN} {g : EM} {gs : List EM} {x : Str} {p : Pos} {e : Expr} {es : List Expr} (hc : CallR X (.type T) (rN G f)) (hg : Gl X x) (hm : X.mg x = none) (hv : bootBuiltins x = some (.type T)) (ha : PA X (e :: es) (tA G Z (evs (g :: gs))))
    (hn : x ≠ "__name__" := by decide) (hdb : (x == ("__debug__" : Str)) = false := by decide)
    (he : starEach (e :: es) X.env = (false, eval e X.env) :: starEach es X.env := by rfl) (hpl : (backTo pos (starEach es X.env)).any (·.1) = false := by rfl) : PE X (.Call (.Name x p) (e :: es) [] pos) (tE G Z (eOpN f (g :: gs))) :=
  pe_of (L2.pe_callTy hc hg hm hv ha hn hdb he hpl) fun σ H Q h => opN_read h
/-! ### sequences as they are read -/
theorem items_ok (hK : X.K = G.K) {m : Mp} {h : AH} {H : Hp} (R : Rel G m h H) {w : W} {v : V} (r : VR G m w v) {ws : List W} (e : items h w = some ws) : ∃ a vs, v = .ref a ∧ VRs G m ws vs ∧ (L2.SqL X.K H a vs ∨ L2.SqT X.K H a vs) := by
  unfold items at e
  cases w with
  | ref l =>
    obtain ⟨a, ha, rfl⟩ := r
    dsimp only at e
    cases e1 : h.get l with
    | none =>
      rw [e1] at e
      cases e
    | some c =>
      rw [e1] at e
      cases c with
      | lst xs =>
        cases e
        obtain ⟨_, o1, vs, r1, rfl⟩ := R.see ha e1
        exact ⟨a, vs, rfl, r1, .inl (.inl (.inl o1))⟩
      | tup xs =>
        cases e
        obtain ⟨_, o1, vs, r1, rfl⟩ := R.see ha e1
        exact ⟨a, vs, rfl, r1, .inr (.inl (.inl o1))⟩
      | _ => cases e
  | scr =>
    cases e
    cases r
    exact ⟨G.sa, _, rfl, vrs_ints _, .inl (hK ▸ R.scr.sq)⟩
  | _ => cases e
/-! ### len -/
theorem cr_len (hK : X.K = G.K := by rfl) : CallR X (.builtin "len") (rN G oLen) := callr_of L2.call_len_seq fun xs H Q h => by
  obtain ⟨m, h, as, R, rs, q⟩ := h
  cases rs with
  | nil => exact q.elim
  | cons r t =>
    cases t with
    | cons _ _ => exact q.elim
    | nil =>
      rename_i w v
      unfold oLen at q
      dsimp only at q
      cases e : items h w with
      | none =>
        rw [e] at q
        exact q.elim
      | some ws =>
        rw [e] at q
        obtain ⟨a, vs, rfl, rv, hq⟩ := items_ok hK R r e
        exact ⟨a, vs, rfl, hq, q m H _ (.refl m) R (by rw [vrs_len rv]; exact rfl)⟩
/-! ### list, tuple -/
theorem cr_list (hK : X.K = G.K := by rfl) : CallR X (.type "list") (rN G oList) := callr_of L2.call_list_of fun xs H Q h => by
  obtain ⟨m, h, as, R, rs, q⟩ := h
  cases rs with
  | nil => exact q.elim
  | cons r t =>
    cases t with
    | cons _ _ => exact q.elim
    | nil =>
      rename_i w v
      unfold oList at q
      dsimp only at q
      cases e : items h w with
      | none =>
        rw [e] at q
        exact q.elim
      | some ws =>
        rw [e] at q
        obtain ⟨a, vs, rfl, rv, hq⟩ := items_ok hK R r e
        exact ⟨a, vs, rfl, hq, fun p np => new_sat (c := .lst ws) R np ⟨_, rv.mono (m.le_snoc p), rfl⟩ q⟩
/-! ### int, max, min -/
def wint : W → Option Int
  | .int i => some i
  | _ => none
theorem cr_int : CallR X (.type "int") (rN G oInt) := callr_of L2.call_int1 fun xs H Q h => by
  obtain ⟨m, h, as, R, rs, q⟩ := h
  cases rs with
  | nil => exact q.elim
  | @cons w v _ _ r t =>
    cases t with
    | cons _ _ => cases w with
      | bl b => cases b <;> exact q.elim
      | _ => exact q.elim
    | nil =>
      cases w with
      | int i =>
        cases r
        exact .inl ⟨i, rfl, q m H _ (.refl m) R rfl⟩
      | sym k a c =>
        cases r
        exact .inl ⟨_, rfl, q m H _ (.refl m) R rfl⟩
      | bl b =>
        cases r
        cases b with
        | true => exact .inr ⟨true, rfl, q m H _ (.refl m) R rfl⟩
        | false => exact .inr ⟨false, rfl, q m H _ (.refl m) R rfl⟩
      | _ => exact q.elim
theorem two_read {f : OpN} {xs : List V} {H : Hp} {Q : VK} (hf : ∀ as h r, f as h = some r → ∃ i j, as = [.int i, .int j]) (h : rN G f xs H Q) : ∃ m h i j, Rel G m h H ∧ xs = [.int i, .int j] ∧ Sat G m (fun _ _ _ => False) (VR G) (ofO (f [.int i, .int j] h)) Q := by
  obtain ⟨m, h, as, R, rs, q⟩ := h
  cases e : f as h with
  | none =>
    rw [e] at q
    exact q.elim
  | some r =>
    obtain ⟨i, j, rfl⟩ := hf as h r e
    cases rs with
    | cons r1 t =>
      cases t with
      | cons r2 t =>
        cases t
        cases r1
        cases r2
        exact ⟨m, h, i, j, R, rfl, q⟩
theorem cr_max2 (hc : X.calm = true) : CallR X (.builtin "max") (rN G oMax2) := callr_of (L2.call_max2 hc) fun xs H Q h => by
  obtain ⟨m, h, i, j, R, rfl, q⟩ := two_read (f := oMax2) (fun as h r e => by
    unfold oMax2 at e
    split at e
    · exact ⟨_, _, rfl⟩
    · cases e) h
  refine ⟨i, j, rfl, q m H _ (.refl m) R ?_⟩
  rw [ilt_iff]
  by_cases z : i < j
  · rw [decide_eq_true z, if_pos z]; exact rfl
  · rw [decide_eq_false z, if_neg z]; exact rfl
theorem cr_min2 (hc : X.calm = true) : CallR X (.builtin "min") (rN G oMin2) := callr_of (L2.call_min2 hc) fun xs H Q h => by
  obtain ⟨m, h, i, j, R, rfl, q⟩ := two_read (f := oMin2) (fun as h r e => by
    unfold oMin2 at e
    split at e
    · exact ⟨_, _, rfl⟩
    · cases e) h
  refine ⟨i, j, rfl, q m H _ (.refl m) R ?_⟩
  rw [ilt_iff]
  by_cases z : j < i
  · rw [decide_eq_true z, if_pos z]; exact rfl
  · rw [decide_eq_false z, if_neg z]; exact rfl
/-! ### isinstance, none of exceptions -/
theorem kind_ok (hK : X.K = G.K) {m : Mp} {h : AH} {H : Hp} (R : Rel G m h H) {w : W} {v : V} (r : VR G m w v) {t : Ty} (e : kind h w = some t) : L2.TyX X.K H v (.type t.nm) := by
  unfold kind at e
  cases w with
  | non => cases e; cases r; exact .base .non
  | bl b => cases e; cases r; exact .base (.bl b)
  | int b => cases e; cases r; exact .base (.int b)
  | sym k a c => cases e; cases r; exact .base (.int _)
  | txt b => cases e; cases r; exact .base (.str _)
  | scr =>
    cases e; cases r
    rcases R.scr with ⟨ob, q⟩ | (q | q)
    · exact .base (.frz q)
    · rcases q with q | ⟨ob, q⟩ <;> cases q
    · obtain ⟨o, its, n, e1, e2, _⟩ := q
      exact .kList (hK ▸ e1) e2
  | ref l =>
    obtain ⟨a, ha, rfl⟩ := r
    dsimp only at e
    cases e1 : h.get l with
    | none =>
      rw [e1] at e
      cases e
    | some c =>
      rw [e1] at e
      cases c with
      | lst xs =>
        cases e
        obtain ⟨_, o1, vs, r1, rfl⟩ := R.see ha e1
        exact .base (.lst o1)
      | tup xs =>
        cases e
        obtain ⟨_, o1, vs, r1, rfl⟩ := R.see ha e1
        exact .base (.tup o1)
      | dct xs =>
        cases e
        obtain ⟨_, o1, vs, r1, rfl⟩ := R.see ha e1
        exact .base (.dK o1)
      | set xs =>
        cases e
        obtain ⟨_, o1, r1, rfl⟩ := R.see ha e1
        exact .set o1
      | _ => cases e
  | _ => cases e
def oIsi : OpN := fun xs h => match xs with
  | [x, .ty t] => (match kind h x with
    | some k => some (.bl (k.isT t), h)
    | none => none)
  | _ => none
theorem cr_isi (hK : X.K = G.K := by rfl) : CallR X (.builtin "isinstance") (rN G oIsi) := callr_of L2.call_isi fun xs H Q h => by
  obtain ⟨m, h, as, R, rs, q⟩ := h
  cases rs with
  | nil => exact q.elim
  | @cons w v _ _ r t =>
    cases t with
    | nil => exact q.elim
    | @cons w2 v2 _ _ r2 t =>
      cases t with
      | cons _ _ => cases w2 <;> exact q.elim
      | nil =>
        cases w2 with
        | ty t =>
          cases r2
          unfold oIsi at q
          dsimp only at q
          cases e : kind h w with
          | none =>
            rw [e] at q
            exact q.elim
          | some k =>
            rw [e] at q
            exact ⟨v, _, _, _, _, rfl, .ty t.nm, kind_ok hK R r e, L2.kit_ty (kit_tab k t), q m H _ (.refl m) R rfl⟩
        | _ => exact q.elim
/-! ### i.bit_length() -/
def blen (i : Int) : Int := (Builtin.Int.intBits i : Nat)
def oBits : Op1 := fun x h => match x with
  | .int i => some (.int (blen i), h)
  | _ => none
theorem pm_bits {o : Expr} {g : EM} {apos : Pos} (ho : PE X o (tE G Z g)) (hbase : attributeBase o "bit_length" X.env (eval o X.env) = eval o X.env := by rfl) (hline : (apos.endLine == pos.line) = true := by rfl) : PE X (.Call (.Attribute o "bit_length" apos) [] [] pos) (tE G Z (eOp1 oBits g)) :=
  pe_of (L2.pe_bits ho hbase hline) fun σ H Q h => by
    obtain ⟨m, h, s, R, S, q⟩ := h
    refine ⟨m, h, s, R, S, (Sat.bind (R := VR G) q).imp fun x H1 z => ?_⟩
    obtain ⟨m1, w, h1, l1, R1, ra, q1⟩ := z
    cases w with
    | int i =>
      cases ra
      exact ⟨i, rfl, q1 m1 H1 _ (.refl m1) R1 rfl⟩
    | _ => exact q1.elim
end
end Pm
/-! PmSeq: sums, sorting, methods of lists. -/
namespace Pm
open PySem PySem.Spec
open L2 (V Hp HO Cx Inv PE PT PA PS PSs PW TE TT TA TS St VK XK WX Ends RelV Vals upd upd_same upd_ne Takes R2 OpR CallR MtR tOp tVar Vis Gl Room Binds)
section
variable {X : Cx} {G : Gx} {Z : WX} {pos : Pos}
/-! ### whole numbers in a list -/
theorem wints_ok {m : Mp} : ∀ {ws : List W} {vs : List V} {is : List Int}, VRs G m ws vs → wints ws = some is → vs = is.map V.int
  | _, _, _, .nil, e => by cases e; rfl
  | w :: r, _, is, .cons q t, e => by
    cases w with
    | int i =>
      unfold wints at e
      cases e1 : wints r with
      | none =>
        rw [e1] at e
        cases e
      | some js =>
        rw [e1] at e
        cases e
        cases q
        rw [wints_ok t e1] <;> rfl
    | _ => cases e
def isum : List Int → Int
  | [] => 0
  | x :: r => x + isum r
theorem isum_ok : ∀ l : List Int, isum l = l.sum
  | [] => rfl
  | x :: r => by
    show x + isum r = (x :: r).sum
    rw [List.sum_cons, isum_ok r]
def oSum : OpN := fun xs h => match xs with
  | [x] => (match items h x with
    | some ys => (match wints ys with
      | some is => some (.int (isum is), h)
      | none => none)
    | none => none)
  | _ => none
theorem lst_ok (hK : X.K = G.K) {m : Mp} {h : AH} {H : Hp} (R : Rel G m h H) {w : W} {v : V} (r : VR G m w v) {ws : List W} (e : lst? h w = some ws) : ∃ a vs, v = .ref a ∧ VRs G m ws vs ∧ L2.SqL X.K H a vs := by
  unfold lst? at e
  cases w with
  | ref l =>
    obtain ⟨a, ha, rfl⟩ := r
    dsimp only at e
    cases e1 : h.get l with
    | none =>
      rw [e1] at e
      cases e
    | some c =>
      rw [e1] at e
      cases c with
      | lst xs =>
        cases e
        obtain ⟨_, o1, vs, r1, rfl⟩ := R.see ha e1
        exact ⟨a, vs, rfl, r1, .inl (.inl o1)⟩
      | _ => cases e
  | scr =>
    cases e
    cases r
    exact ⟨G.sa, _, rfl, vrs_ints _, hK ▸ R.scr.sq⟩
  | _ => cases e
theorem ints_read (hK : X.K = G.K) {f : List Int → AH → Option (W × AH)} {xs : List V} {H : Hp} {Q : VK} (h : rN G (oInts f) xs H Q) : ∃ m h a is, Rel G m h H ∧ xs = [.ref a] ∧ L2.SqL X.K H a (is.map V.int) ∧ Sat G m (fun _ _ _ => False) (VR G) (ofO (f is h)) Q := by
  obtain ⟨m, h, as, R, rs, q⟩ := h
  cases rs with
  | nil => exact q.elim
  | cons r t =>
    cases t with
    | cons _ _ => exact q.elim
    | nil =>
      rename_i w v
      unfold oInts at q
      dsimp only at q
      cases e : lst? h w with
      | none =>
        rw [e] at q
        exact q.elim
      | some ws =>
        rw [e] at q
        dsimp only at q
        cases e2 : wints ws with
        | none =>
          rw [e2] at q
          exact q.elim
        | some is =>
          rw [e2] at q
          obtain ⟨a, vs, rfl, rv, hq⟩ := lst_ok hK R r e
          rw [wints_ok rv e2] at hq
          exact ⟨m, h, a, is, R, rfl, hq, q⟩
theorem cr_sum (hc : X.calm = true) (hK : X.K = G.K := by rfl) : CallR X (.builtin "sum") (rN G (oInts fun is h => some (.int (isum is), h))) := callr_of (L2.cr_sum hc) fun xs H Q h => by
  obtain ⟨m, h, a, is, R, rfl, hq, q⟩ := ints_read hK h
  exact ⟨a, is, rfl, hq, q m H _ (.refl m) R (by rw [isum_ok]; exact rfl)⟩
theorem ins_perm (x : Int) : ∀ l : List Int, (ins x l).Perm (x :: l)
  | [] => .refl _
  | y :: r => by
    unfold ins
    cases ile x y with
    | true => exact .refl _
    | false => exact ((ins_perm x r).cons y).trans (.swap x y r)
theorem isort_perm : ∀ l : List Int, (isort l).Perm l
  | [] => .refl _
  | x :: r => (ins_perm x (isort r)).trans ((isort_perm r).cons x)
theorem ins_sorted (x : Int) : ∀ {l : List Int}, l.Pairwise (· ≤ ·) → (ins x l).Pairwise (· ≤ ·)
  | [], _ => List.pairwise_singleton _ _
  | y :: r, h => by
    unfold ins
    obtain ⟨h1, h2⟩ := List.pairwise_cons.mp h
    cases e : ile x y with
    | true =>
      rw [ile_iff] at e
      have e' : x ≤ y := of_decide_eq_true e
      exact List.pairwise_cons.mpr ⟨fun z hz => by
        rcases List.mem_cons.mp hz with rfl | hz
        · exact e'
        · exact Int.le_trans e' (h1 z hz), h⟩
    | false =>
      rw [ile_iff] at e
      have e' : ¬ x ≤ y := of_decide_eq_false e
      exact List.pairwise_cons.mpr ⟨fun z hz => by
        rcases List.mem_cons.mp ((ins_perm x r).mem_iff.mp hz) with rfl | hz
        · omega
        · exact h1 z hz, ins_sorted x h2⟩
theorem isort_sorted : ∀ l : List Int, (isort l).Pairwise (· ≤ ·)
  | [] => .nil
  | x :: r => ins_sorted x (isort_sorted r)
theorem cr_sorted (hK : X.K = G.K := by rfl) : CallR X (.builtin "sorted") (rN G (oInts fun is h => some (.ref h.n, h.new (.lst ((isort is).map W.int))))) := callr_of L2.cr_sortedI fun xs H Q h => by
  obtain ⟨m, h, a, is, R, rfl, hq, q⟩ := ints_read hK h
  refine ⟨a, is, rfl, hq, fun ns' p hp ho np => ?_⟩
  have e : ns' = isort is := PySem.W.lks_uniq (hp.trans (isort_perm is).symm) ho (isort_sorted is)
  subst e
  exact new_sat (c := .lst ((isort is).map W.int)) R np ⟨_, vrs_ints _, rfl⟩ q
theorem imax_ok : ∀ (l : List Int) (m : Int), imax m l ∈ m :: l ∧ ∀ y ∈ m :: l, y ≤ imax m l
  | [], m => ⟨List.mem_cons_self, fun y hy => by
    have e : y = m := by simpa using hy
    rw [e]
    exact Int.le_refl _⟩
  | x :: r, m => by
    unfold imax
    cases e : ilt m x with
    | true =>
      rw [ilt_iff] at e
      have e' := of_decide_eq_true e
      obtain ⟨a, b⟩ := imax_ok r x
      exact ⟨List.mem_cons_of_mem _ a, fun y hy => by
        rcases List.mem_cons.mp hy with rfl | hy
        · exact Int.le_trans (Int.le_of_lt e') (b x List.mem_cons_self)
        · exact b y hy⟩
    | false =>
      rw [ilt_iff] at e
      have e' := of_decide_eq_false e
      obtain ⟨a, b⟩ := imax_ok r m
      refine ⟨?_, fun y hy => ?_⟩
      · rcases List.mem_cons.mp a with a | a
        · rw [a]
          exact List.mem_cons_self
        · exact List.mem_cons_of_mem _ (List.mem_cons_of_mem _ a)
      · rcases List.mem_cons.mp hy with rfl | hy
        · exact b _ List.mem_cons_self
        · rcases List.mem_cons.mp hy with rfl | hy
          · exact Int.le_trans (Int.not_lt.mp e') (b m List.mem_cons_self)
          · exact b y (List.mem_cons_of_mem _ hy)
theorem imin_ok : ∀ (l : List Int) (m : Int), imin m l ∈ m :: l ∧ ∀ y ∈ m :: l, imin m l ≤ y
  | [], m => ⟨List.mem_cons_self, fun y hy => by
    have e : y = m := by simpa using hy
    rw [e]
    exact Int.le_refl _⟩
  | x :: r, m => by
    unfold imin
    cases e : ilt x m with
    | true =>
      rw [ilt_iff] at e
      have e' := of_decide_eq_true e
      obtain ⟨a, b⟩ := imin_ok r x
      exact ⟨List.mem_cons_of_mem _ a, fun y hy => by
        rcases List.mem_cons.mp hy with rfl | hy
        · exact Int.le_trans (b x List.mem_cons_self) (Int.le_of_lt e')
        · exact b y hy⟩
    | false =>
      rw [ilt_iff] at e
      have e' := of_decide_eq_false e
      obtain ⟨a, b⟩ := imin_ok r m
      refine ⟨?_, fun y hy => ?_⟩
      · rcases List.mem_cons.mp a with a | a
        · rw [a]
          exact List.mem_cons_self
        · exact List.mem_cons_of_mem _ (List.mem_cons_of_mem _ a)
      · rcases List.mem_cons.mp hy with rfl | hy
        · exact b _ List.mem_cons_self
        · rcases List.mem_cons.mp hy with rfl | hy
          · exact Int.le_trans (b m List.mem_cons_self) (Int.not_lt.mp e')
          · exact b y (List.mem_cons_of_mem _ hy)
theorem cr_maxL (hc : X.calm = true) (hK : X.K = G.K := by rfl) : CallR X (.builtin "max") (rN G oMaxL) := callr_of (L2.cr_max hc) fun xs H Q h => by
  obtain ⟨m, h, a, is, R, rfl, hq, q⟩ := ints_read hK h
  cases is with
  | nil => exact q.elim
  | cons x r =>
    refine ⟨a, _, rfl, hq, Nat.succ_pos _, fun k h1 h2 => ?_⟩
    obtain ⟨z1, z2⟩ := imax_ok r x
    have e : k = imax x r := Int.le_antisymm (z2 k h1) (h2 _ z1)
    exact q m H _ (.refl m) R (by rw [e]; exact rfl)
theorem cr_minL (hc : X.calm = true) (hK : X.K = G.K := by rfl) : CallR X (.builtin "min") (rN G oMinL) := callr_of (L2.cr_min hc) fun xs H Q h => by
  obtain ⟨m, h, a, is, R, rfl, hq, q⟩ := ints_read hK h
  cases is with
  | nil => exact q.elim
  | cons x r =>
    refine ⟨a, _, rfl, hq, Nat.succ_pos _, fun k h1 h2 => ?_⟩
    obtain ⟨z1, z2⟩ := imin_ok r x
    have e : k = imin x r := Int.le_antisymm (h2 _ z1) (z2 k h1)
    exact q m H _ (.refl m) R (by rw [e]; exact rfl)
/-! ### xs.append(y), xs.pop() -/
theorem line_lt {n : Nat} (h : Nat.blt n 1000000 = true) : n < sizeLine := Nat.lt_of_lt_of_le (Nat.le_of_ble_eq_true h) (by rw [sizeLine_eq]; decide)
theorem isL_ok {m : Mp} {h : AH} {H : Hp} (R : Rel G m h H) {w : W} {v : V} (r : VR G m w v) (e : isL h w = true) : L2.tyV X.K "list" v H := by
  unfold isL at e
  cases w with
  | ref l =>
    obtain ⟨a, ha, rfl⟩ := r
    dsimp only at e
    cases e1 : h.get l with
    | none =>
      rw [e1] at e
      cases e
    | some c =>
      rw [e1] at e
      cases c with
      | lst xs =>
        obtain ⟨_, o1, vs, r1, rfl⟩ := R.see ha e1
        exact .inl ⟨rfl, _, .inl (.inl o1)⟩
      | _ => cases e
  | _ => cases e
theorem pm_meth {T id : String} {name : Str} {chk : AH → W → Bool} {f : Op2} {r : V → List V → Hp → VK → Prop} {o e : Expr} {apos cpos : Pos} {go ge : EM} (pa : PlainAttrs T) (slot : Slot T name id) (hty : typeOf (.builtin id) = pure (.type "method_descriptor")) (hm : MtR X id r)
    (hchk : ∀ {m : Mp} {h : AH} {H : Hp} {w : W} {v : V}, Rel G m h H → VR G m w v → chk h w = true → L2.tyV X.K T v H)
    (hf : ∀ {m : Mp} {h : AH} {H : Hp} {w w2 : W} {v v2 : V} {Q : VK}, Rel G m h H → VR G m w v → VR G m w2 v2 → Sat G m (fun _ _ _ => False) (VR G) (ofO (f w w2 h)) Q → r v [v2] H Q)
    (ho : PE X o (tE G Z go)) (he : PE X e (tE G Z ge)) (hs1 : starEach [e] X.env = (false, eval e X.env) :: starEach [] X.env := by rfl)
    (hbase : attributeBase o name X.env (eval o X.env) = eval o X.env := by rfl)
    (hfew : ((backTo cpos (starEach [e] X.env)).all (fun x => !x.1) && (backToKw cpos (keywordEach [] X.env)).all (fun x => x.1.isSome)
      && decide ([e].length + ([] : List Keyword).length + (if ([] : List Keyword).isEmpty then 0 else 1) < 30)) = true := by rfl)
    (hline : (apos.endLine == cpos.line) = true := by rfl) (hplain : (backTo cpos (starEach [] X.env)).any (·.1) = false := by rfl) :
    PE X (.Call (.Attribute o name apos) [e] [] cpos) (tE G Z (eMeth chk f go ge)) :=
  pe_of (L2.pe_bm pa slot hty hm ho (L2.pa_cons he L2.pa_nil hs1) hbase hfew hline hs1 hplain) fun σ H Q h => by
    obtain ⟨m, h, s, R, S, q⟩ := h
    refine ⟨m, h, s, R, S, (Sat.bind (R := VR G) q).imp fun x H1 z => ?_⟩
    obtain ⟨m1, w, h1, l1, R1, ra, q1⟩ := z
    cases ec : chk h1 w with
    | false =>
      rw [ec] at q1
      exact q1.elim
    | true =>
      rw [ec] at q1
      refine ⟨hchk R1 ra ec, m1, h1, s, R1, S.mono l1, (Sat.bind (R := VR G) q1).imp fun y H2 z => ?_⟩
      obtain ⟨m2, w2, h2, l2, R2, rb, q2⟩ := z
      exact hf R2 (ra.mono l2) rb q2.ofO
theorem pm_meth0 {T id : String} {name : Str} {f : Op1} {r : V → List V → Hp → VK → Prop} {o : Expr} {apos cpos : Pos} {go : EM} (pa : PlainAttrs T) (slot : Slot T name id) (hty : typeOf (.builtin id) = pure (.type "method_descriptor")) (hm : MtR X id r)
    (hf : ∀ {m : Mp} {h : AH} {H : Hp} {w : W} {v : V} {Q : VK}, Rel G m h H → VR G m w v → Sat G m (fun _ _ _ => False) (VR G) (ofO (f w h)) Q → L2.tyV X.K T v H ∧ r v [] H Q)
    (ho : PE X o (tE G Z go)) (hbase : attributeBase o name X.env (eval o X.env) = eval o X.env := by rfl) (hline : (apos.endLine == cpos.line) = true := by rfl) :
    PE X (.Call (.Attribute o name apos) [] [] cpos) (tE G Z (eOp1 f go)) :=
  pe_of (L2.pe_bm0 pa slot hty hm ho hbase hline) fun σ H Q h => by
    obtain ⟨m, h, s, R, S, q⟩ := h
    refine ⟨m, h, s, R, S, (Sat.bind (R := VR G) q).imp fun x H1 z => ?_⟩
    obtain ⟨m1, w, h1, l1, R1, ra, q1⟩ := z
    exact hf R1 ra q1.ofO
theorem append_read {m : Mp} {h : AH} {H : Hp} {w w2 : W} {v v2 : V} {Q : VK} (R : Rel G m h H) (r : VR G m w v) (r2 : VR G m w2 v2) (q : Sat G m (fun _ _ _ => False) (VR G) (ofO (oAppend w w2 h)) Q) : L2.rAppend v [v2] H Q := by
  unfold oAppend at q
  cases w with
  | ref l =>
    obtain ⟨a, ha, rfl⟩ := r
    dsimp only at q
    cases e1 : h.get l with
    | none =>
      rw [e1] at q
      exact q.elim
    | some c =>
      rw [e1] at q
      cases c with
      | lst xs =>
        obtain ⟨_, o1, vs, r1, rfl⟩ := R.see ha e1
        dsimp only at q
        cases e2 : Nat.blt xs.length 1000000 with
        | false =>
          rw [e2] at q
          exact q.elim
        | true =>
          rw [e2] at q
          refine ⟨a, vs, v2, rfl, rfl, o1, by rw [← vrs_len r1]; exact line_lt e2, ?_⟩
          exact q m _ .non (.refl m) (R.put (c := .lst xs) (c' := .lst (xs ++ [w2])) ha e1 rfl ⟨_, vrs_apps r1 (.cons r2 .nil), rfl⟩) rfl
      | _ => exact q.elim
  | _ => exact q.elim
theorem pm_append {o e : Expr} {apos cpos : Pos} {go ge : EM} (ho : PE X o (tE G Z go)) (he : PE X e (tE G Z ge)) (hs1 : starEach [e] X.env = (false, eval e X.env) :: starEach [] X.env := by rfl)
    (hbase : attributeBase o "append" X.env (eval o X.env) = eval o X.env := by rfl)
    (hfew : ((backTo cpos (starEach [e] X.env)).all (fun x => !x.1) && (backToKw cpos (keywordEach [] X.env)).all (fun x => x.1.isSome)
      && decide ([e].length + ([] : List Keyword).length + (if ([] : List Keyword).isEmpty then 0 else 1) < 30)) = true := by rfl)
    (hline : (apos.endLine == cpos.line) = true := by rfl) (hplain : (backTo cpos (starEach [] X.env)).any (·.1) = false := by rfl) :
    PE X (.Call (.Attribute o "append" apos) [e] [] cpos) (tE G Z (eMeth isL oAppend go ge)) :=
  pm_meth PySem.F.plainAttrs_list PySem.F.slot_list_append PySem.F.type_list_append L2.mt_append (fun R r e => isL_ok (X := X) R r e) (fun R r r2 q => append_read R r r2 q) ho he hs1 hbase hfew hline hplain
def oPop : Op1 := fun x h => match x with
  | .ref l => (match h.get l with
    | some (.lst xs) => (match nth xs (xs.length - 1) with
      | some y => some (y, h.put l (.lst xs.dropLast))
      | none => none)
    | _ => none)
  | _ => none
theorem vrs_dropLast {m : Mp} : ∀ {ws : List W} {vs : List V}, VRs G m ws vs → VRs G m ws.dropLast vs.dropLast
  | _, _, .nil => .nil
  | [_], _, .cons _ .nil => .nil
  | _ :: _ :: _, _, .cons r (.cons r2 t) => .cons r (vrs_dropLast (.cons r2 t))
theorem pop_read {m : Mp} {h : AH} {H : Hp} {w : W} {v : V} {Q : VK} (R : Rel G m h H) (r : VR G m w v) (q : Sat G m (fun _ _ _ => False) (VR G) (ofO (oPop w h)) Q) : L2.tyV X.K "list" v H ∧ L2.rPop v [] H Q := by
  unfold oPop at q
  cases w with
  | ref l =>
    obtain ⟨a, ha, rfl⟩ := r
    dsimp only at q
    cases e1 : h.get l with
    | none =>
      rw [e1] at q
      exact q.elim
    | some c =>
      rw [e1] at q
      cases c with
      | lst xs =>
        obtain ⟨_, o1, vs, r1, rfl⟩ := R.see ha e1
        dsimp only at q
        cases e2 : nth xs (xs.length - 1) with
        | none =>
          rw [e2] at q
          exact q.elim
        | some y =>
          rw [e2] at q
          obtain ⟨v, h1, h2⟩ := vrs_get r1 (nth_get ▸ e2)
          refine ⟨.inl ⟨rfl, _, .inl (.inl o1)⟩, a, vs, v, rfl, rfl, o1, by rw [← vrs_len r1]; exact h1, ?_⟩
          exact q m _ v (.refl m) (R.put (c := .lst xs) (c' := .lst xs.dropLast) ha e1 rfl ⟨_, vrs_dropLast r1, rfl⟩) h2
      | _ => exact q.elim
  | _ => exact q.elim
theorem pm_pop {o : Expr} {apos cpos : Pos} {go : EM} (ho : PE X o (tE G Z go)) (hbase : attributeBase o "pop" X.env (eval o X.env) = eval o X.env := by rfl) (hline : (apos.endLine == cpos.line) = true := by rfl) :
    PE X (.Call (.Attribute o "pop" apos) [] [] cpos) (tE G Z (eOp1 oPop go)) :=
  pm_meth0 PySem.F.plainAttrs_list PySem.F.slot_list_pop PySem.F.type_list_pop L2.mt_pop (fun R r q => pop_read (X := X) R r q) ho hbase hline
end
end Pm
/-! PmDeep: data read out of the heap; == and !=; repr. -/
namespace Pm
open PySem PySem.Spec
open L2 (V Hp HO Cx Inv PE PT PA PS PSs PW TE TT TA TS St VK XK WX Ends RelV Vals upd upd_same upd_ne Takes R2 OpR CallR MtR tOp tVar Vis Gl Room Binds)

/-! ### == of data -/
mutual
def sdEqC : SD → SD → Option Bool
  | .non, e => (match e with
    | .non => some true
    | .dct _ _ => none
    | _ => some false)
  | .bl a, e => (match e with
    | .bl b => some (a == b)
    | .int j => some (ieq (bI a) j)
    | .sym _ k c => symEq k c (bI a)
    | .dct _ _ => none
    | _ => some false)
  | .int i, e => (match e with
    | .bl b => some (ieq i (bI b))
    | .int j => some (ieq i j)
    | .sym _ k c => symEq k c i
    | .dct _ _ => none
    | _ => some false)
  | .sym n k c, e => (match e with
    | .bl b => symEq k c (bI b)
    | .int j => symEq k c j
    | .sym n' k' c' => (match Nat.beq n n' && ieq k k' with
      | true => some (ieq c c')
      | false => none)
    | .dct _ _ => none
    | _ => some false)
  | .str x, e => (match e with
    | .str y => some (leq x y)
    | .rep _ => none
    | .cat _ _ => none
    | .dct _ _ => none
    | _ => some false)
  | .rep _, _ => none
  | .cat _ _, _ => none
  | .dct _ _, _ => none
  | .lst xs, e => (match e with
    | .lst ys => sdEqsC xs ys
    | .dct _ _ => none
    | _ => some false)
  | .tup xs, e => (match e with
    | .tup ys => sdEqsC xs ys
    | .dct _ _ => none
    | _ => some false)
def sdEqsC : List SD → List SD → Option Bool
  | [], ys => (match ys with
    | [] => some true
    | _ => some false)
  | x :: xs, ys => (match ys with
    | [] => some false
    | y :: ys => (match sdEqC x y with
      | some true => sdEqsC xs ys
      | some false => some false
      | none => (match sdEqsC xs ys with
        | some false => some false
        | _ => none)))
end
def sdEqs (d : List SD) : List SD → Option Bool := SD.rec_1 (motive_1 := fun _ => SD → Option Bool) (motive_2 := fun _ => List SD → Option Bool)
  (fun e => match e with
    | .non => some true
    | .dct _ _ => none
    | _ => some false)
  (fun a e => match e with
    | .bl b => some (a == b)
    | .int j => some (ieq (bI a) j)
    | .sym _ k c => symEq k c (bI a)
    | .dct _ _ => none
    | _ => some false)
  (fun i e => match e with
    | .bl b => some (ieq i (bI b))
    | .int j => some (ieq i j)
    | .sym _ k c => symEq k c i
    | .dct _ _ => none
    | _ => some false)
  (fun n k c e => match e with
    | .bl b => symEq k c (bI b)
    | .int j => symEq k c j
    | .sym n' k' c' => (match Nat.beq n n' && ieq k k' with
      | true => some (ieq c c')
      | false => none)
    | .dct _ _ => none
    | _ => some false)
  (fun x e => match e with
    | .str y => some (leq x y)
    | .rep _ => none
    | .cat _ _ => none
    | .dct _ _ => none
    | _ => some false)
  (fun _ _ _ => none)
  (fun _ _ _ _ _ => none)
  (fun _ ih e => match e with
    | .lst ys => ih ys
    | .dct _ _ => none
    | _ => some false)
  (fun _ ih e => match e with
    | .tup ys => ih ys
    | .dct _ _ => none
    | _ => some false)
  (fun _ _ _ _ _ => none)
  (fun ys => match ys with
    | [] => some true
    | _ => some false)
  (fun _ _ ih1 ih2 ys => match ys with
    | [] => some false
    | y :: ys => (match ih1 y with
      | some true => ih2 ys
      | some false => some false
      | none => (match ih2 ys with
        | some false => some false
        | _ => none)))
  d
mutual
theorem sdEq_eqC : ∀ (d e : SD), sdEq d e = sdEqC d e
  | .non, e => by unfold sdEqC; cases e <;> rfl
  | .bl _, e => by unfold sdEqC; cases e <;> rfl
  | .int _, e => by unfold sdEqC; cases e <;> rfl
  | .sym _ _ _, e => by unfold sdEqC; cases e <;> rfl
  | .str _, e => by unfold sdEqC; cases e <;> rfl
  | .rep _, e => by unfold sdEqC; rfl
  | .cat _ _, e => by unfold sdEqC; rfl
  | .dct _ _, e => by unfold sdEqC; rfl
  | .lst xs, e => by unfold sdEqC; cases e <;> first | rfl | exact sdEqs_eqC xs _
  | .tup xs, e => by unfold sdEqC; cases e <;> first | rfl | exact sdEqs_eqC xs _
theorem sdEqs_eqC : ∀ (d e : List SD), sdEqs d e = sdEqsC d e
  | [], e => by unfold sdEqsC; cases e <;> rfl
  | x :: xs, [] => by unfold sdEqsC; rfl
  | x :: xs, y :: ys => by
    unfold sdEqsC
    dsimp only
    rw [← sdEq_eqC x y, ← sdEqs_eqC xs ys]
    rfl
end
theorem leq_ok : ∀ {x y : List Nat}, leq x y = decide (x = y)
  | [], [] => rfl
  | [], _ :: _ => rfl
  | _ :: _, [] => rfl
  | a :: x, b :: y => by
    unfold leq
    rw [leq_ok (x := x) (y := y), Bool.eq_iff_iff]
    simp [Nat.beq_eq]
section
variable {G : Gx}
theorem symEq_ok {n : Nat} {a c i : Int} {b : Bool} (h : symEq a c i = some b) : b = false ∧ a * G.ρ n + c ≠ i := by
  unfold symEq at h
  have h1 := hi_ok (G := G) n a c
  have h2 := lo_ok (G := G) n a c
  rw [ilt_iff, ilt_iff] at h
  split at h
  · rename_i e
    have e' := of_decide_eq_true e
    cases h
    exact ⟨rfl, by omega⟩
  · split at h
    · rename_i e
      have e' := of_decide_eq_true e
      cases h
      exact ⟨rfl, by omega⟩
    · cases h
theorem bI_if (b : Bool) : (if b then (1 : Int) else 0) = bI b := by cases b <;> rfl
theorem str_eqb (x y : List Nat) : ((⟨x.toArray⟩ : Str) == ⟨y.toArray⟩) = leq x y := by
  rw [leq_ok, Bool.eq_iff_iff]
  simp
mutual
theorem sdEqC_ok : ∀ (d e : SD) (b : Bool), sdEqC d e = some b → PyData.eqv (d.g G.ρ) (e.g G.ρ) = b
  | .non, e, b, h => by
    unfold sdEqC at h
    cases e <;> cases h <;> simp only [SD.g, PyData.eqv]
  | .bl a, e, b, h => by
    unfold sdEqC at h
    cases e with
    | bl b' => cases h; simp only [SD.g, PyData.eqv]
    | int j => cases h; simp only [SD.g, PyData.eqv]; rw [ieq_iff, bI_if, Bool.eq_iff_iff]; simp
    | sym n k c =>
      obtain ⟨rfl, z⟩ := symEq_ok (G := G) (n := n) h
      simp only [SD.g, PyData.eqv]
      rw [bI_if]
      exact beq_eq_false_iff_ne.mpr (fun q => z q.symm)
    | _ => cases h <;> simp only [SD.g, PyData.eqv]
  | .int i, e, b, h => by
    unfold sdEqC at h
    cases e with
    | bl b' => cases h; simp only [SD.g, PyData.eqv]; rw [ieq_iff, bI_if, Bool.eq_iff_iff]; simp
    | int j => cases h; simp only [SD.g, PyData.eqv]; rw [ieq_iff, Bool.eq_iff_iff]; simp
    | sym n k c =>
      obtain ⟨rfl, z⟩ := symEq_ok (G := G) (n := n) h
      simp only [SD.g, PyData.eqv]
      exact beq_eq_false_iff_ne.mpr (fun q => z q.symm)
    | _ => cases h <;> simp only [SD.g, PyData.eqv]
  | .sym n k c, e, b, h => by
    unfold sdEqC at h
    cases e with
    | bl b' =>
      obtain ⟨rfl, z⟩ := symEq_ok (G := G) (n := n) h
      simp only [SD.g, PyData.eqv]
      rw [bI_if]
      exact beq_eq_false_iff_ne.mpr z
    | int j =>
      obtain ⟨rfl, z⟩ := symEq_ok (G := G) (n := n) h
      simp only [SD.g, PyData.eqv]
      exact beq_eq_false_iff_ne.mpr z
    | sym n' k' c' =>
      dsimp only at h
      cases e1 : Nat.beq n n' && ieq k k' with
      | false =>
        rw [e1] at h
        cases h
      | true =>
        rw [e1] at h
        cases h
        obtain ⟨z1, z2⟩ := Bool.and_eq_true_iff.mp e1
        have z1' := Nat.eq_of_beq_eq_true z1
        rw [ieq_iff] at z2
        have z2' := of_decide_eq_true z2
        subst z1' z2'
        simp only [SD.g, PyData.eqv]
        rw [ieq_iff, Bool.eq_iff_iff]
        simp only [beq_iff_eq, decide_eq_true_eq]
        constructor <;> intro q <;> omega
    | _ => cases h <;> simp only [SD.g, PyData.eqv]
  | .str x, e, b, h => by
    unfold sdEqC at h
    cases e with
    | str y =>
      cases h
      simp only [SD.g, PyData.eqv]
      exact str_eqb x y
    | _ => cases h <;> simp only [SD.g, PyData.eqv]
  | .rep _, e, b, h => by unfold sdEqC at h; cases h
  | .cat _ _, e, b, h => by unfold sdEqC at h; cases h
  | .dct _ _, e, b, h => by unfold sdEqC at h; cases h
  | .lst xs, e, b, h => by
    unfold sdEqC at h
    cases e with
    | lst ys =>
      simp only [SD.g, PyData.eqv]
      exact sdEqsC_ok xs ys b h
    | _ => cases h <;> simp only [SD.g, PyData.eqv]
  | .tup xs, e, b, h => by
    unfold sdEqC at h
    cases e with
    | tup ys =>
      simp only [SD.g, PyData.eqv]
      exact sdEqsC_ok xs ys b h
    | _ => cases h <;> simp only [SD.g, PyData.eqv]
theorem sdEqsC_ok : ∀ (d e : List SD) (b : Bool), sdEqsC d e = some b → PyData.eqvAll (SD.gs G.ρ d) (SD.gs G.ρ e) = b
  | [], e, b, h => by
    unfold sdEqsC at h
    cases e <;> cases h <;> simp only [SD.gs, PyData.eqvAll]
  | x :: xs, [], b, h => by
    unfold sdEqsC at h
    cases h
    simp only [SD.gs, PyData.eqvAll]
  | x :: xs, y :: ys, b, h => by
    unfold sdEqsC at h
    dsimp only at h
    simp only [SD.gs, PyData.eqvAll]
    cases e1 : sdEqC x y with
    | none =>
      rw [e1] at h
      dsimp only at h
      cases e2 : sdEqsC xs ys with
      | none =>
        rw [e2] at h
        cases h
      | some t =>
        rw [e2] at h
        cases t with
        | true => cases h
        | false =>
          cases h
          rw [sdEqsC_ok xs ys _ e2, Bool.and_false]
    | some t =>
      rw [e1] at h
      rw [sdEqC_ok x y _ e1]
      cases t with
      | false =>
        cases h
        rfl
      | true =>
        rw [Bool.true_and]
        exact sdEqsC_ok xs ys b h
end
theorem sdEq_ok (d e : SD) (b : Bool) (h : sdEq d e = some b) : PyData.eqv (d.g G.ρ) (e.g G.ρ) = b := sdEqC_ok d e b (by rw [← sdEq_eqC]; exact h)
theorem sdEqs_ok (d e : List SD) (b : Bool) (h : sdEqs d e = some b) : PyData.eqvAll (SD.gs G.ρ d) (SD.gs G.ρ e) = b := sdEqsC_ok d e b (by rw [← sdEqs_eqC]; exact h)
end
/-! ### how big -/
mutual
def SD.fitC : SD → Option (Nat × Nat)
  | .non => some (0, 0)
  | .bl _ => some (0, 0)
  | .int i => (match Nat.blt i.natAbs 1048576 with
    | true => some (21, 0)
    | false => (match int100 i with
      | true => some (700, 0)
      | false => none))
  | .sym _ a c => (match int50 a && int50 c with
    | true => some (700, 0)
    | false => none)
  | .str x => (match x.all fun c => Nat.blt c 1114112 with
    | true => some (x.length, 0)
    | false => none)
  | .rep _ => none
  | .cat _ _ => none
  | .dct _ _ => none
  | .lst xs => (match SD.fitsC xs with
    | some (w, k) => some (w, k + 1)
    | none => none)
  | .tup xs => (match SD.fitsC xs with
    | some (w, k) => some (w, k + 1)
    | none => none)
def SD.fitsC : List SD → Option (Nat × Nat)
  | [] => some (0, 0)
  | d :: r => (match SD.fitC d with
    | none => none
    | some (w, k) => (match SD.fitsC r with
      | none => none
      | some (w', k') => some (w + 1 + w', Nat.max k k')))
end
mutual
theorem SD.fit_eqC : ∀ (d : SD), d.fit = d.fitC
  | .non => by unfold SD.fitC; rfl
  | .bl _ => by unfold SD.fitC; rfl
  | .int _ => by unfold SD.fitC; rfl
  | .sym _ _ _ => by unfold SD.fitC; rfl
  | .str _ => by unfold SD.fitC; rfl
  | .rep _ => by unfold SD.fitC; rfl
  | .cat _ _ => by unfold SD.fitC; rfl
  | .dct _ _ => by unfold SD.fitC; rfl
  | .lst xs => by unfold SD.fitC; rw [← SD.fits_eqC xs]; rfl
  | .tup xs => by unfold SD.fitC; rw [← SD.fits_eqC xs]; rfl
theorem SD.fits_eqC : ∀ (d : List SD), SD.fits d = SD.fitsC d
  | [] => by unfold SD.fitsC; rfl
  | x :: xs => by
    unfold SD.fitsC
    rw [← SD.fit_eqC x, ← SD.fits_eqC xs]
    rfl
end
theorem SD.fits_c (d : SD) (r : List SD) : SD.fits (d :: r) = (match SD.fit d with
    | none => none
    | some (w, k) => (match SD.fits r with
      | none => none
      | some (w', k') => some (w + 1 + w', Nat.max k k'))) := rfl

structure Fit (d : PyData) (w k : Nat) : Prop where
  lay : d.canLay0 = true
  wt : d.weight ≤ w
  dp : d.depth ≤ k
  sh : d.showable = true
  ls : d.leavesShort 200 = true
  nd : d.hasDict = false
structure Fits (d : List PyData) (w k : Nat) : Prop where
  lay : PyData.canLayAll0 d = true
  wt : PyData.weightAll d ≤ w
  dp : PyData.depthAll d ≤ k
  sh : PyData.showableAll d = true
  ls : PyData.leavesShortAll 200 d = true
  nd : PyData.hasDictAll d = false
theorem fit_int {i : Int} (h : i.natAbs < 10 ^ 150) : Fit (.int i) 700 0 := by
  have h2 : i.natAbs < 2 ^ 600 := Nat.lt_trans h (by decide +kernel)
  have hl : i.natAbs.log2 < 600 := by
    by_cases z : i.natAbs = 0
    · rw [z]
      decide +kernel
    · exact (Nat.log2_lt z).mpr h2
  refine ⟨by simp only [PyData.canLay0], ?_, by simp only [PyData.depth]; exact Nat.le_refl _, ?_, ?_, by simp only [PyData.hasDict]⟩
  · simp only [PyData.weight]
    split <;> omega
  · simp only [PyData.showable, decide_eq_true_eq]
    omega
  · simp only [PyData.leavesShort, decide_eq_true_eq]
    have e := int_text_length_le10 (k := 150) (by decide) h
    show (Str.ofString (toString i)).length ≤ 200
    rw [ofString_length]
    omega
theorem fit_small {i : Int} (h : i.natAbs < 1048576) : Fit (.int i) 21 0 := by
  have F := fit_int (i := i) (Nat.lt_trans h (by decide +kernel))
  have hl : i.natAbs.log2 < 20 := by
    by_cases z : i.natAbs = 0
    · rw [z]
      decide +kernel
    · exact (Nat.log2_lt z).mpr h
  refine ⟨F.lay, ?_, F.dp, F.sh, F.ls, F.nd⟩
  simp only [PyData.weight]
  split <;> omega
section
variable {G : Gx}
theorem abs_le {i : Int} {n : Nat} (h : i.natAbs < n) : -(n : Int) < i ∧ i < n := by omega
theorem sym_abs {a c r : Int} (ha : a.natAbs < 10 ^ 50) (hc : c.natAbs < 10 ^ 50) (h0 : 0 ≤ r) (h1 : r ≤ 10 ^ 30) : (a * r + c).natAbs < 10 ^ 150 := by
  have e1 : (a * r).natAbs = a.natAbs * r.natAbs := Int.natAbs_mul a r
  have hr : r.natAbs ≤ 10 ^ 30 := by
    have : (r.natAbs : Int) = r := Int.natAbs_of_nonneg h0
    have h1' : (r.natAbs : Int) ≤ ((10 ^ 30 : Nat) : Int) := by rw [this]; exact h1
    exact Int.ofNat_le.mp h1'
  have e2 : a.natAbs * r.natAbs ≤ 10 ^ 50 * 10 ^ 30 := Nat.mul_le_mul (Nat.le_of_lt ha) hr
  have e3 := Int.natAbs_add_le (a * r) c
  have e4 : (10 : Nat) ^ 50 * 10 ^ 30 + 10 ^ 50 < 10 ^ 150 := by decide +kernel
  rw [e1] at e3
  generalize (10 : Nat) ^ 50 * 10 ^ 30 = A at e2 e4
  generalize (10 : Nat) ^ 150 = B at e4 ⊢
  generalize (10 : Nat) ^ 50 = C at ha hc e4
  omega
mutual
theorem SD.fitC_ok : ∀ (d : SD) (w k : Nat), d.fitC = some (w, k) → Fit (d.g G.ρ) w k
  | .non, w, k, h => by
    unfold SD.fitC at h
    cases h
    exact ⟨by simp only [SD.g, PyData.canLay0], by simp [SD.g, PyData.weight], by simp [SD.g, PyData.depth], by simp [SD.g, PyData.showable], by simp [SD.g, PyData.leavesShort], by simp [SD.g, PyData.hasDict]⟩
  | .bl b, w, k, h => by
    unfold SD.fitC at h
    cases h
    exact ⟨by simp only [SD.g, PyData.canLay0], by simp [SD.g, PyData.weight], by simp [SD.g, PyData.depth], by simp [SD.g, PyData.showable], by simp [SD.g, PyData.leavesShort], by simp [SD.g, PyData.hasDict]⟩
  | .int i, w, k, h => by
    unfold SD.fitC at h
    cases e0 : Nat.blt i.natAbs 1048576 with
    | true =>
      rw [e0] at h
      cases h
      exact fit_small (Nat.le_of_ble_eq_true e0)
    | false =>
      rw [e0] at h
      dsimp only at h
      cases e : int100 i with
      | false =>
        rw [e] at h
        cases h
      | true =>
        rw [e] at h
        cases h
        refine fit_int (Nat.lt_trans (Nat.le_of_ble_eq_true e) (by decide +kernel))
  | .sym n a c, w, k, h => by
    unfold SD.fitC at h
    cases e : int50 a && int50 c with
    | false =>
      rw [e] at h
      cases h
    | true =>
      rw [e] at h
      cases h
      obtain ⟨e1, e2⟩ := Bool.and_eq_true_iff.mp e
      obtain ⟨h0, h1⟩ := G.ρ0 n
      exact fit_int (sym_abs (Nat.le_of_ble_eq_true e1) (Nat.le_of_ble_eq_true e2) h0 h1)
  | .str x, w, k, h => by
    unfold SD.fitC at h
    cases e : x.all fun c => Nat.blt c 1114112 with
    | false =>
      rw [e] at h
      cases h
    | true =>
      rw [e] at h
      cases h
      have hx : ∀ c ∈ x, c < 1114112 := fun c hc => Nat.le_of_ble_eq_true (List.all_eq_true.mp e c hc)
      refine ⟨?_, by simp [SD.g, PyData.weight], by simp [SD.g, PyData.depth], by simp [SD.g, PyData.showable], ?_, by simp [SD.g, PyData.hasDict]⟩
      · simp only [SD.g, PyData.canLay0, PyData.strOk, List.all_toArray, List.all_eq_true, decide_eq_true_eq]
        exact hx
      · simp only [SD.g, PyData.leavesShort, List.all_eq_true, decide_eq_true_eq]
        intro c hc
        exact Nat.lt_trans (hx c (by simpa using hc)) (by decide)
  | .rep _, w, k, h => by unfold SD.fitC at h; cases h
  | .cat _ _, w, k, h => by unfold SD.fitC at h; cases h
  | .dct _ _, w, k, h => by unfold SD.fitC at h; cases h
  | .lst xs, w, k, h => by
    unfold SD.fitC at h
    cases e : SD.fitsC xs with
    | none =>
      rw [e] at h
      cases h
    | some p =>
      obtain ⟨w', k'⟩ := p
      rw [e] at h
      cases h
      have F := SD.fitsC_ok xs _ _ e
      exact ⟨by simp only [SD.g, PyData.canLay0]; exact F.lay, by simp only [SD.g, PyData.weight]; exact F.wt, by simp only [SD.g, PyData.depth]; exact Nat.succ_le_succ F.dp, by simp only [SD.g, PyData.showable]; exact F.sh, by simp only [SD.g, PyData.leavesShort]; exact F.ls, by simp only [SD.g, PyData.hasDict]; exact F.nd⟩
  | .tup xs, w, k, h => by
    unfold SD.fitC at h
    cases e : SD.fitsC xs with
    | none =>
      rw [e] at h
      cases h
    | some p =>
      obtain ⟨w', k'⟩ := p
      rw [e] at h
      cases h
      have F := SD.fitsC_ok xs _ _ e
      exact ⟨by simp only [SD.g, PyData.canLay0]; exact F.lay, by simp only [SD.g, PyData.weight]; exact F.wt, by simp only [SD.g, PyData.depth]; exact Nat.succ_le_succ F.dp, by simp only [SD.g, PyData.showable]; exact F.sh, by simp only [SD.g, PyData.leavesShort]; exact F.ls, by simp only [SD.g, PyData.hasDict]; exact F.nd⟩
theorem SD.fitsC_ok : ∀ (d : List SD) (w k : Nat), SD.fitsC d = some (w, k) → Fits (SD.gs G.ρ d) w k
  | [], w, k, h => by
    unfold SD.fitsC at h
    cases h
    exact ⟨by simp only [SD.gs, PyData.canLayAll0], by simp [SD.gs, PyData.weightAll], by simp [SD.gs, PyData.depthAll], by simp [SD.gs, PyData.showableAll], by simp [SD.gs, PyData.leavesShortAll], by simp [SD.gs, PyData.hasDictAll]⟩
  | d :: r, w, k, h => by
    unfold SD.fitsC at h
    cases e : SD.fitC d with
    | none =>
      rw [e] at h
      cases h
    | some p =>
      obtain ⟨w1, k1⟩ := p
      rw [e] at h
      dsimp only at h
      cases e2 : SD.fitsC r with
      | none =>
        rw [e2] at h
        cases h
      | some p =>
        obtain ⟨w2, k2⟩ := p
        rw [e2] at h
        cases h
        have F := SD.fitC_ok d _ _ e
        have F2 := SD.fitsC_ok r _ _ e2
        refine ⟨by simp only [SD.gs, PyData.canLayAll0]; exact Bool.and_eq_true_iff.mpr ⟨F.lay, F2.lay⟩, ?_, ?_, by simp only [SD.gs, PyData.showableAll]; exact Bool.and_eq_true_iff.mpr ⟨F.sh, F2.sh⟩, by simp only [SD.gs, PyData.leavesShortAll]; exact Bool.and_eq_true_iff.mpr ⟨F.ls, F2.ls⟩, ?_⟩
        · simp only [SD.gs, PyData.weightAll]
          have := F.wt
          have := F2.wt
          omega
        · simp only [SD.gs, PyData.depthAll]
          have h1 := F.dp
          have h2 := F2.dp
          exact Nat.max_le.mpr ⟨Nat.le_trans h1 (Nat.le_max_left _ _), Nat.le_trans h2 (Nat.le_max_right _ _)⟩
        · simp only [SD.gs, PyData.hasDictAll]
          rw [F.nd, F2.nd] <;> rfl
end
theorem SD.fit_ok (d : SD) (w k : Nat) (h : d.fit = some (w, k)) : Fit (d.g G.ρ) w k := SD.fitC_ok d w k (by rw [← SD.fit_eqC]; exact h)
theorem SD.fits_ok (d : List SD) (w k : Nat) (h : SD.fits d = some (w, k)) : Fits (SD.gs G.ρ d) w k := SD.fitsC_ok d w k (by rw [← SD.fits_eqC]; exact h)
/-! ### reading -/
def rdsC (f : W → Option SD) : List W → Option (List SD)
  | [] => some []
  | x :: r => (match f x with
    | none => none
    | some d => (match rdsC f r with
      | none => none
      | some ds => some (d :: ds)))
theorem rds_c (f : W → Option SD) (x : W) (r : List W) : rds f (x :: r) = (match f x with
    | none => none
    | some d => (match rds f r with
      | none => none
      | some ds => some (d :: ds))) := rfl
def rdC : Nat → AH → W → Option SD
  | 0, _, _ => none
  | f + 1, h, w => match w with
    | .non => some .non
    | .bl b => some (.bl b)
    | .int i => some (.int i)
    | .sym k a c => some (.sym k a c)
    | .txt (.str x) => some (.str x)
    | .ref l => (match h.get l with
      | some (.lst xs) => (match rds (rdC f h) xs with
        | some ds => some (.lst ds)
        | none => none)
      | some (.tup xs) => (match rds (rdC f h) xs with
        | some ds => some (.tup ds)
        | none => none)
      | some (.ali xs) => (match rds (rdC f h) xs with
        | some ds => some (.tup ds)
        | none => none)
      | _ => none)
    | _ => none
theorem rd_s (f : Nat) (h : AH) (w : W) : rd (f + 1) h w = (match w with
    | .non => some .non
    | .bl b => some (.bl b)
    | .int i => some (.int i)
    | .sym k a c => some (.sym k a c)
    | .txt (.str x) => some (.str x)
    | .ref l => (match h.get l with
      | some (.lst xs) => (match rds (rd f h) xs with
        | some ds => some (.lst ds)
        | none => none)
      | some (.tup xs) => (match rds (rd f h) xs with
        | some ds => some (.tup ds)
        | none => none)
      | some (.ali xs) => (match rds (rd f h) xs with
        | some ds => some (.tup ds)
        | none => none)
      | _ => none)
    | _ => none) := rfl
theorem rds_ok {K : PySem.W.Frag} {m : Mp} {H : Hp} {f : W → Option SD} (hf : ∀ w v d, f w = some d → VR G m w v → L2.Dp K H v (d.g G.ρ)) : ∀ {ws : List W} {vs : List V} {ds : List SD}, rds f ws = some ds → VRs G m ws vs → L2.DpAll K H vs (SD.gs G.ρ ds)
  | [], _, ds, e, .nil => by
    cases e
    exact .nil
  | w :: r, _, ds, e, .cons q t => by
    rw [rds_c] at e
    cases e1 : f w with
    | none =>
      rw [e1] at e
      cases e
    | some d =>
      rw [e1] at e
      dsimp only at e
      cases e2 : rds f r with
      | none =>
        rw [e2] at e
        cases e
      | some ds =>
        rw [e2] at e
        cases e
        exact .cons (hf w _ d e1 q) (rds_ok hf e2 t)
theorem rd_ok {K : PySem.W.Frag} {m : Mp} {h : AH} {H : Hp} (R : Rel G m h H) : ∀ (f : Nat) (w : W) (v : V) (d : SD), rd f h w = some d → VR G m w v → L2.Dp K H v (d.g G.ρ)
  | 0, _, _, _, e, _ => by
    unfold rd at e
    cases e
  | f + 1, w, v, d, e, r => by
    rw [rd_s] at e
    cases w with
    | non => cases e; cases r; exact .non
    | bl b => cases e; cases r; exact .bl b
    | int i => cases e; cases r; exact .int i
    | sym k a c => cases e; cases r; exact .int _
    | txt t =>
      cases t with
      | str x => cases e; cases r; exact .str _
      | _ => cases e
    | ref l =>
      obtain ⟨a, ha, rfl⟩ := r
      dsimp only at e
      cases e1 : h.get l with
      | none =>
        rw [e1] at e
        cases e
      | some c =>
        rw [e1] at e
        cases c with
        | lst xs =>
          obtain ⟨_, o1, vs, r1, rfl⟩ := R.see ha e1
          dsimp only at e
          cases e2 : rds (rd f h) xs with
          | none =>
            rw [e2] at e
            cases e
          | some ds =>
            rw [e2] at e
            cases e
            simp only [SD.g]
            exact .lst (.inl (.inl o1)) (rds_ok (fun w v d e q => rd_ok R f w v d e q) e2 r1)
        | tup xs =>
          obtain ⟨_, o1, vs, r1, rfl⟩ := R.see ha e1
          dsimp only at e
          cases e2 : rds (rd f h) xs with
          | none =>
            rw [e2] at e
            cases e
          | some ds =>
            rw [e2] at e
            cases e
            simp only [SD.g]
            exact .tup (.inl (.inl o1)) (rds_ok (fun w v d e q => rd_ok R f w v d e q) e2 r1)
        | ali xs =>
          obtain ⟨_, o1, vs, r1, rfl⟩ := R.see ha e1
          dsimp only at e
          cases e2 : rds (rd f h) xs with
          | none =>
            rw [e2] at e
            cases e
          | some ds =>
            rw [e2] at e
            cases e
            simp only [SD.g]
            exact .tup (.inl (.inl o1)) (rds_ok (fun w v d e q => rd_ok R f w v d e q) e2 r1)
        | _ => cases e
    | _ => cases e
end
end Pm
/-! PmRe0: repr of data in which empty dicts lie. -/
namespace Pm
open PySem PySem.Spec
mutual
/-- data in the heap, the only dicts are empty ones -/
inductive RdE (hp : Heap) : Value → PyData → Prop
  | non : RdE hp .none .none
  | bl (b : Bool) : RdE hp (.bool b) (.bool b)
  | int (i : Int) (t : Nat) : RdE hp (.int i t) (.int i)
  | str (x : Str) (t : Nat) : RdE hp (.str x t) (.str x)
  | lst {p : Addr} {ob : Obj} {us : Array Value} {k : Nat} {ds : List PyData} : hp.get? p = some ob → ob.cls = .type "list" → ob.data = .seq us k → RdEs hp us.toList ds → RdE hp (.ref p) (.list ds)
  | tup {p : Addr} {ob : Obj} {us : Array Value} {k : Nat} {ds : List PyData} : hp.get? p = some ob → ob.cls = .type "tuple" → ob.data = .seq us k → RdEs hp us.toList ds → RdE hp (.ref p) (.tuple ds)
  | dct {p : Addr} {ob : Obj} {es : Array DictEntry} {k : Nat} : hp.get? p = some ob → ob.cls = .type "dict" → ob.data = .dict es k → es.toList = [] → (p == sysModules) = false → RdE hp (.ref p) (.dict [])
inductive RdEs (hp : Heap) : List Value → List PyData → Prop
  | nil : RdEs hp [] []
  | cons {v : Value} {vs : List Value} {d : PyData} {ds : List PyData} : RdE hp v d → RdEs hp vs ds → RdEs hp (v :: vs) (d :: ds)
end
section
variable {hp : Heap}
mutual
theorem RdE.reads : ∀ {v : Value} {d : PyData}, RdE hp v d → ∃ as, Reads hp v d as
  | _, _, .non => ⟨_, .none⟩
  | _, _, .bl b => ⟨_, .bool b⟩
  | _, _, .int i t => ⟨_, .int i t⟩
  | _, _, .str x t => ⟨_, .str x t⟩
  | _, _, .lst a b c e => let ⟨_, r⟩ := RdEs.reads e; ⟨_, .list a b c r⟩
  | _, _, .tup a b c e => let ⟨_, r⟩ := RdEs.reads e; ⟨_, .tuple a b c r⟩
  | _, _, .dct a b c e _ => ⟨_, .dict (as := []) (bs := []) a b c (by rw [e]; exact .nil) (by rw [e]; exact .nil)⟩
theorem RdEs.reads : ∀ {vs : List Value} {ds : List PyData}, RdEs hp vs ds → ∃ as, ReadsAll hp vs ds as
  | _, _, .nil => ⟨_, .nil⟩
  | _, _, .cons a r => let ⟨_, x⟩ := RdE.reads a; let ⟨_, y⟩ := RdEs.reads r; ⟨_, .cons x y⟩
end
variable {prog : Program} {w : World}
abbrev RK (prog : Program) (w : World) (hp : Heap) (v : Value) (d : PyData) : Prop := ∃ cs, ReadAtMost hp d.depth cs ∧ ReprK prog w cs hp d.depth v d.shown
abbrev RKs (prog : Program) (w : World) (hp : Heap) (vs : List Value) (ds : List PyData) : Prop := ∃ cs, ReadAtMost hp (PyData.depthAll ds) cs ∧ ReprAllK prog w cs hp (PyData.depthAll ds) vs (PyData.shownAll ds)
mutual
theorem RdE.repr : ∀ {v : Value} {d : PyData}, RdE hp v d → d.showable = true → d.shown.length ≤ sizeLine → RK prog w hp v d
  | _, _, .non, hs, hz => ReprK.of_reads .none hs (fun h => by simp [PyData.hasDict] at h) hz
  | _, _, .bl b, hs, hz => ReprK.of_reads (.bool b) hs (fun h => by simp [PyData.hasDict] at h) hz
  | _, _, .int i t, hs, hz => ReprK.of_reads (.int i t) hs (fun h => by simp [PyData.hasDict] at h) hz
  | _, _, .str x t, hs, hz => ReprK.of_reads (.str x t) hs (fun h => by simp [PyData.hasDict] at h) hz
  | _, _, .lst (p := p) (us := us) (ds := ds) g1 g2 g3 e, hs, hz => by
    have hz2 : (listText (PyData.shownAll ds)).length ≤ sizeLine := by simpa only [PyData.shown] using hz
    obtain ⟨cs, q1, q2⟩ := RdEs.repr e (by simpa [PyData.showable] using hs) fun t ht => Nat.le_trans (listText_mem_le ht) hz2
    obtain ⟨as, ra⟩ := RdEs.reads e
    have nin : p ∉ cs := not_mem_of_deeper (Reads.list g1 g2 g3 ra) (by simp only [PyData.depth]; exact Nat.lt_succ_self _) q1
    refine ⟨p :: cs, ReadAtMost.cons (Reads.list g1 g2 g3 ra) (by simp only [PyData.depth]; exact Nat.le_succ _) q1, ?_⟩
    simp only [PyData.depth, PyData.shown]
    obtain ⟨zs⟩ := us
    cases zs with
    | nil =>
      have e0 : RdEs hp [] ds := e
      cases e0
      simp only [PyData.shownAll, listText_nil]
      exact .listEmpty g1 g2 g3
    | cons z zs => exact .list g1 g2 g3 nin (by simpa using q2.length_eq) fun i y ey => q2.item i y (by simpa using ey)
  | _, _, .tup (p := p) (us := us) (ds := ds) g1 g2 g3 e, hs, hz => by
    have hz2 : (tupleText (PyData.shownAll ds)).length ≤ sizeLine := by simpa only [PyData.shown] using hz
    obtain ⟨cs, q1, q2⟩ := RdEs.repr e (by simpa [PyData.showable] using hs) fun t ht => Nat.le_trans (tupleText_mem_le ht) hz2
    obtain ⟨as, ra⟩ := RdEs.reads e
    have nin : p ∉ cs := not_mem_of_deeper (Reads.tuple g1 g2 g3 ra) (by simp only [PyData.depth]; exact Nat.lt_succ_self _) q1
    refine ⟨p :: cs, ReadAtMost.cons (Reads.tuple g1 g2 g3 ra) (by simp only [PyData.depth]; exact Nat.le_succ _) q1, ?_⟩
    simp only [PyData.depth, PyData.shown]
    exact .tuple g1 g2 g3 nin q2
  | _, _, .dct (p := p) g1 g2 g3 e hd, hs, hz => by
    refine ReprK.of_reads (as := p :: [] ++ []) (.dict g1 g2 g3 (by rw [e]; exact .nil) (by rw [e]; exact .nil)) hs (fun _ z => ?_) hz
    have z' : sysModules = p := by simpa using z
    rw [← z'] at hd
    simp at hd
theorem RdEs.repr : ∀ {vs : List Value} {ds : List PyData}, RdEs hp vs ds → PyData.showableAll ds = true → (∀ t ∈ PyData.shownAll ds, t.length ≤ sizeLine) → RKs prog w hp vs ds
  | _, _, .nil, _, _ => ⟨[], (fun _ z => nomatch z), by simp only [PyData.shownAll]; exact .nil⟩
  | _, _, .cons (d := d) (ds := ds) a r, hs, hz => by
    have hs2 : d.showable = true ∧ PyData.showableAll ds = true := by simpa [PyData.showableAll] using hs
    obtain ⟨c1, q1, k1⟩ := RdE.repr a hs2.1 (hz _ (by simp only [PyData.shownAll]; exact .head _))
    obtain ⟨c2, q2, k2⟩ := RdEs.repr r hs2.2 fun t ht => hz t (by simp only [PyData.shownAll]; exact .tail _ ht)
    refine ⟨c1 ++ c2, fun b hb => ?_, ?_⟩
    · simp only [PyData.depthAll]
      rcases List.mem_append.mp hb with hb | hb
      · obtain ⟨e, as, x, y⟩ := q1 b hb
        exact ⟨e, as, x, Nat.le_trans y (Nat.le_max_left _ _)⟩
      · obtain ⟨e, as, x, y⟩ := q2 b hb
        exact ⟨e, as, x, Nat.le_trans y (Nat.le_max_right _ _)⟩
    · simp only [PyData.depthAll, PyData.shownAll]
      exact .cons ((k1.more fun b z => List.mem_append_left _ z).level_le (Nat.le_max_left _ _)) (k2.more_le (fun b z => List.mem_append_right _ z) (Nat.le_max_right _ _))
end
theorem RdE.shows {p : Addr} {d : PyData} (r : RdE hp (.ref p) d) (hs : d.showable = true) (hsz : d.shown.length ≤ sizeLine) : ∃ T idr, ShowsBy prog w hp p d T idr := by
  cases r with
  | lst g1 g2 g3 e =>
    rename_i ob us k ds
    have hz2 : (listText (PyData.shownAll ds)).length ≤ sizeLine := by simpa only [PyData.shown] using hsz
    obtain ⟨cs, q1, q2⟩ := RdEs.repr (prog := prog) (w := w) e (by simpa [PyData.showable] using hs) fun t ht => Nat.le_trans (listText_mem_le ht) hz2
    obtain ⟨as, ra⟩ := RdEs.reads e
    have nin : p ∉ cs := not_mem_of_deeper (Reads.list g1 g2 g3 ra) (by simp only [PyData.depth]; exact Nat.lt_succ_self _) q1
    refine ⟨"list", "list.__repr__", F.slot_list_repr.toG, F.slot_list_str, F.slot_list_format, fun s k0 => ⟨ob, k0 _ _ g1, g2⟩, fun A E s Q hg hu k0 hq => ?_⟩
    simp only [PyData.depth] at hu
    simp only [PyData.shown] at hq
    obtain ⟨zs⟩ := us
    cases zs with
    | nil =>
      have e0 : RdEs hp [] ds := e
      cases e0
      simp only [PyData.shownAll, listText_nil] at hq
      exact call_list_repr_empty ⟨ob, k0 _ _ g1, g2⟩ (k0 _ _ g1) g3 (hq s.heap _ _ fun _ _ z => z)
    | cons z zs => exact call_list_reprK g1 g2 g3 nin (by simpa using q2.length_eq) (fun i y ey => q2.item i y (by simpa using ey)) hg (fun b _ => Clear.nil b) hu k0 hq hz2
  | tup g1 g2 g3 e =>
    rename_i ob us k ds
    have hz2 : (tupleText (PyData.shownAll ds)).length ≤ sizeLine := by simpa only [PyData.shown] using hsz
    obtain ⟨cs, q1, q2⟩ := RdEs.repr (prog := prog) (w := w) e (by simpa [PyData.showable] using hs) fun t ht => Nat.le_trans (tupleText_mem_le ht) hz2
    obtain ⟨as, ra⟩ := RdEs.reads e
    have nin : p ∉ cs := not_mem_of_deeper (Reads.tuple g1 g2 g3 ra) (by simp only [PyData.depth]; exact Nat.lt_succ_self _) q1
    refine ⟨"tuple", "tuple.__repr__", F.slot_tuple_repr, F.slot_tuple_str, F.slot_tuple_format, fun s k0 => ⟨ob, k0 _ _ g1, g2⟩, fun A E s Q hg hu k0 hq => ?_⟩
    simp only [PyData.depth] at hu
    simp only [PyData.shown] at hq
    exact call_tuple_reprK g1 g2 g3 nin q2 hg (fun b _ => Clear.nil b) hu k0 hq hz2
  | dct g1 g2 g3 e hd =>
    refine showsBy_of_reads (as := p :: [] ++ []) (.dict g1 g2 g3 (by rw [e]; exact .nil) (by rw [e]; exact .nil)) hs (fun _ z => ?_) hsz
    have z' : sysModules = p := by simpa using z
    rw [← z'] at hd
    simp at hd
theorem RdE.call {p : Addr} {d : PyData} {A : Around} {E : Value → Shared → Prop} {s : Shared} {Q : Value → Shared → Prop} (r : RdE s.heap (.ref p) d) (hs : d.showable = true) (hg : A.guards = some []) (hu : A.units + (d.depth + 1) < cLine) (hsz : d.shown.length ≤ sizeLine)
    (hQ : ∀ h' u tk, (∀ b o, s.heap.get? b = some o → h'.get? b = some o) → Q (.str d.shown u) { s with heap := h', toks := tk }) : wpAny (model prog w) A (call (.builtin "repr") [.ref p]) Q E s := by
  obtain ⟨T, idr, S⟩ := RdE.shows (prog := prog) (w := w) r hs hsz
  exact call_repr_slot (by omega) (S.typeIs s fun _ _ z => z) S.slotRepr (S.call A.in1 E s _ hg (by show A.units + 1 + d.depth < cLine; omega) (fun _ _ z => z) fun h' u tk hk => ⟨_, _, rfl, hQ h' u tk hk⟩)
end
/-! ### the small heap's data with empty dicts -/
open L2 (V Hp HO Cx Inv St VK RelV Vals)
mutual
inductive DpE (H : Hp) : V → PyData → Prop
  | non : DpE H .non .none
  | bl (b : Bool) : DpE H (.bl b) (.bool b)
  | int (i : Int) : DpE H (.int i) (.int i)
  | str (x : Str) : DpE H (.str x) (.str x)
  | lst {a : Addr} {xs : List V} {ds : List PyData} : H a = some (.lst xs) → DpEs H xs ds → DpE H (.ref a) (.list ds)
  | tup {a : Addr} {xs : List V} {ds : List PyData} : H a = some (.tup xs) → DpEs H xs ds → DpE H (.ref a) (.tuple ds)
  | dct {a : Addr} : H a = some (.dK []) → DpE H (.ref a) (.dict [])
inductive DpEs (H : Hp) : List V → List PyData → Prop
  | nil : DpEs H [] []
  | cons {v : V} {vs : List V} {d : PyData} {ds : List PyData} : DpE H v d → DpEs H vs ds → DpEs H (v :: vs) (d :: ds)
end
section
variable {X : Cx} {pins : List (Addr × Obj)} {σ : St} {H : Hp} {s : Shared}
mutual
theorem DpE.rd (I : Inv X pins σ H s) : ∀ {v : V} {d : PyData} {u : Value}, DpE H v d → RelV v u → RdE s.heap u d
  | _, _, _, .non, r => by
    cases r
    exact .non
  | _, _, _, .bl b, r => by
    cases r
    exact .bl b
  | _, _, _, .int i, r => by
    obtain ⟨t, rfl⟩ := r
    exact .int i t
  | _, _, _, .str x, r => by
    obtain ⟨t, rfl⟩ := r
    exact .str x t
  | _, _, _, .lst e es, r => by
    cases r
    obtain ⟨its, rv, ⟨o, n, ho, hc, _, hd⟩, _⟩ := I.list (.inl (.inl e))
    exact .lst ho hc hd (DpEs.rd I es rv)
  | _, _, _, .tup e es, r => by
    cases r
    obtain ⟨its, rv, ⟨o, ho, hc, n, hd⟩, _⟩ := I.tuple (.inl (.inl e))
    exact .tup ho hc hd (DpEs.rd I es rv)
  | _, _, _, .dct e, r => by
    cases r
    obtain ⟨_, hs, va, rk, ob, es, ep, g1, g2, g3, g4, g5, g6⟩ := (show L2.ObjOk X.prog X.w H s.heap _ (.dK []) from I.hok _ _ e)
    cases rk
    refine .dct g1 g2.1 g3 ?_ hs
    generalize es.toList = l at g5
    cases g5
    rfl
theorem DpEs.rd (I : Inv X pins σ H s) : ∀ {vs : List V} {ds : List PyData} {us : List Value}, DpEs H vs ds → Vals vs us → RdEs s.heap us ds
  | _, _, _, .nil, r => by
    cases r
    exact .nil
  | _, _, _, .cons a b, r => by
    cases r with
    | cons r1 r2 => exact .cons (DpE.rd I a r1) (DpEs.rd I b r2)
end
theorem repr_refE {Q : VK} {d : PyData} {a : Addr} (h : DpE H (.ref a) d) (hs : d.showable = true) (hg : X.A.guards = some []) (hu : X.A.units + (d.depth + 1) < cLine) (hsz : d.shown.length ≤ sizeLine) (I : Inv X pins σ H s) (q : Q (.str d.shown) H) :
    wpAny (model X.prog X.w) X.A (call (.builtin "repr") [.ref a]) (L2.EP X pins σ Q) X.xe s :=
  (h.rd I rfl).call hs hg hu hsz fun h' u tk kp => ⟨.str d.shown, H, I.kept kp, ⟨u, rfl⟩, q⟩
end
section
variable {G : Gx}
theorem rdsE_ok {m : Mp} {H : Hp} {f : W → Option SD} (hf : ∀ w v d, f w = some d → VR G m w v → DpE H v (d.g G.ρ)) : ∀ {ws : List W} {vs : List V} {ds : List SD}, rds f ws = some ds → VRs G m ws vs → DpEs H vs (SD.gs G.ρ ds)
  | [], _, ds, e, .nil => by
    cases e
    exact .nil
  | w :: r, _, ds, e, .cons q t => by
    rw [rds_c] at e
    cases e1 : f w with
    | none => rw [e1] at e; cases e
    | some d =>
      rw [e1] at e
      dsimp only at e
      cases e2 : rds f r with
      | none => rw [e2] at e; cases e
      | some ds =>
        rw [e2] at e
        cases e
        exact .cons (hf w _ d e1 q) (rdsE_ok hf e2 t)
theorem rdE_ok {m : Mp} {h : AH} {H : Hp} (R : Rel G m h H) : ∀ (f : Nat) (w : W) (v : V) (d : SD), rdE f h w = some d → VR G m w v → DpE H v (d.g G.ρ)
  | 0, _, _, _, e, _ => by
    unfold rdE at e
    cases e
  | f + 1, w, v, d, e, r => by
    unfold rdE at e
    cases w with
    | non => cases e; cases r; exact .non
    | bl b => cases e; cases r; exact .bl b
    | int i => cases e; cases r; exact .int i
    | sym k a c => cases e; cases r; exact .int _
    | txt t =>
      cases t with
      | str x => cases e; cases r; exact .str _
      | _ => cases e
    | ref l =>
      obtain ⟨a, ha, rfl⟩ := r
      dsimp only at e
      cases e1 : h.get l with
      | none => rw [e1] at e; cases e
      | some c =>
        rw [e1] at e
        cases c with
        | lst xs =>
          obtain ⟨_, o1, vs, r1, rfl⟩ := R.see ha e1
          dsimp only at e
          cases e2 : rds (rdE f h) xs with
          | none => rw [e2] at e; cases e
          | some ds =>
            rw [e2] at e
            cases e
            simp only [SD.g]
            exact .lst o1 (rdsE_ok (fun w v d e q => rdE_ok R f w v d e q) e2 r1)
        | tup xs =>
          obtain ⟨_, o1, vs, r1, rfl⟩ := R.see ha e1
          dsimp only at e
          cases e2 : rds (rdE f h) xs with
          | none => rw [e2] at e; cases e
          | some ds =>
            rw [e2] at e
            cases e
            simp only [SD.g]
            exact .tup o1 (rdsE_ok (fun w v d e q => rdE_ok R f w v d e q) e2 r1)
        | dct ks =>
          cases ks with
          | nil =>
            cases e
            obtain ⟨_, o1, kv, r1, rfl⟩ := R.see ha e1
            cases r1
            simp only [SD.g, SD.gs, List.zip_nil_left]
            exact .dct o1
          | cons _ _ => cases e
        | _ => cases e
    | _ => cases e
end
/-! ### how great it is -/
structure FitX (d : PyData) (w k : Nat) : Prop where
  wt : d.weight ≤ w
  dp : d.depth ≤ k
  sh : d.showable = true
  ls : d.leavesShort 200 = true
structure FitXs (d : List PyData) (w k : Nat) : Prop where
  wt : PyData.weightAll d ≤ w
  dp : PyData.depthAll d ≤ k
  sh : PyData.showableAll d = true
  ls : PyData.leavesShortAll 200 d = true
section
variable {G : Gx}
theorem fitX_of {d : SD} {w k : Nat} (h : d.fit = some (w, k)) : FitX (d.g G.ρ) w k := let F := SD.fit_ok d w k h; ⟨F.wt, F.dp, F.sh, F.ls⟩
mutual
theorem fitE_ok : ∀ (d : SD) (w k : Nat), fitE d = some (w, k) → FitX (d.g G.ρ) w k
  | .lst xs, w, k, h => by
    unfold fitE at h
    cases e : fitEs xs with
    | none => rw [e] at h; cases h
    | some p =>
      obtain ⟨w1, k1⟩ := p
      rw [e] at h
      cases h
      have F := fitEs_ok xs _ _ e
      exact ⟨by simp only [SD.g, PyData.weight]; exact F.wt, by simp only [SD.g, PyData.depth]; exact Nat.succ_le_succ F.dp, by simp only [SD.g, PyData.showable]; exact F.sh, by simp only [SD.g, PyData.leavesShort]; exact F.ls⟩
  | .tup xs, w, k, h => by
    unfold fitE at h
    cases e : fitEs xs with
    | none => rw [e] at h; cases h
    | some p =>
      obtain ⟨w1, k1⟩ := p
      rw [e] at h
      cases h
      have F := fitEs_ok xs _ _ e
      exact ⟨by simp only [SD.g, PyData.weight]; exact F.wt, by simp only [SD.g, PyData.depth]; exact Nat.succ_le_succ F.dp, by simp only [SD.g, PyData.showable]; exact F.sh, by simp only [SD.g, PyData.leavesShort]; exact F.ls⟩
  | .dct [] [], w, k, h => by
    unfold fitE at h
    cases h
    exact ⟨by simp [SD.g, SD.gs, PyData.weight, PyData.weightKv], by simp [SD.g, SD.gs, PyData.depth, PyData.depthKv], by simp [SD.g, SD.gs, PyData.showable, PyData.showableKv], by simp [SD.g, SD.gs, PyData.leavesShort, PyData.leavesShortKv]⟩
  | .dct (_ :: _) _, w, k, h => by unfold fitE at h; cases h
  | .dct [] (_ :: _), w, k, h => by unfold fitE at h; cases h
  | .non, w, k, h => by
    unfold fitE at h
    exact fitX_of (by rw [SD.fit_eqC]; unfold SD.fitC; exact h)
  | .bl b, w, k, h => by
    unfold fitE at h
    exact fitX_of (by rw [SD.fit_eqC]; unfold SD.fitC; exact h)
  | .int i, w, k, h => by
    unfold fitE at h
    exact fitX_of h
  | .sym n a c, w, k, h => by
    unfold fitE at h
    exact fitX_of h
  | .str x, w, k, h => by
    unfold fitE at h
    exact fitX_of h
  | .rep _, w, k, h => by unfold fitE at h; cases h
  | .cat _ _, w, k, h => by unfold fitE at h; cases h
theorem fitEs_ok : ∀ (d : List SD) (w k : Nat), fitEs d = some (w, k) → FitXs (SD.gs G.ρ d) w k
  | [], w, k, h => by
    unfold fitEs at h
    cases h
    exact ⟨by simp [SD.gs, PyData.weightAll], by simp [SD.gs, PyData.depthAll], by simp [SD.gs, PyData.showableAll], by simp [SD.gs, PyData.leavesShortAll]⟩
  | d :: r, w, k, h => by
    unfold fitEs at h
    cases e : fitE d with
    | none => rw [e] at h; cases h
    | some p =>
      obtain ⟨w1, k1⟩ := p
      rw [e] at h
      dsimp only at h
      cases e2 : fitEs r with
      | none => rw [e2] at h; cases h
      | some p =>
        obtain ⟨w2, k2⟩ := p
        rw [e2] at h
        cases h
        have F := fitE_ok d _ _ e
        have F2 := fitEs_ok r _ _ e2
        refine ⟨?_, ?_, by simp only [SD.gs, PyData.showableAll]; exact Bool.and_eq_true_iff.mpr ⟨F.sh, F2.sh⟩, by simp only [SD.gs, PyData.leavesShortAll]; exact Bool.and_eq_true_iff.mpr ⟨F.ls, F2.ls⟩⟩
        · simp only [SD.gs, PyData.weightAll]
          have := F.wt
          have := F2.wt
          omega
        · simp only [SD.gs, PyData.depthAll]
          exact Nat.max_le.mpr ⟨Nat.le_trans F.dp (Nat.le_max_left _ _), Nat.le_trans F2.dp (Nat.le_max_right _ _)⟩
end
end
section
variable {G : Gx} {X : Cx} {pins : List (Addr × Obj)} {σ : St} {H : Hp} {s : Shared}
theorem reprE_ok {m : Mp} {h : AH} {l : Loc} {t : W} {h' : AH} {v : V} {u : Value} {Q : VK} (e : reprE h (.ref l) = some (t, h')) (R : Rel G m h H) (r : VR G m (.ref l) v) (ru : RelV v u) (hg : X.A.guards = some []) (hr : X.A.units + 200 < cLine) (I : Inv X pins σ H s)
    (q : h' = h → ∀ b, VR G m t b → Q b H) : wpAny (model X.prog X.w) X.A (call (.builtin "repr") [u]) (L2.EP X pins σ Q) X.xe s := by
  unfold reprE at e
  cases e1 : rdE 60 h (.ref l) with
  | none => rw [e1] at e; cases e
  | some d =>
    rw [e1] at e
    dsimp only at e
    cases e2 : fitE d with
    | none => rw [e2] at e; cases e
    | some p =>
      obtain ⟨w, k⟩ := p
      rw [e2] at e
      dsimp only at e
      cases e3 : Nat.ble w 80000 && Nat.ble k 64 with
      | false => rw [e3] at e; cases e
      | true =>
        rw [e3] at e
        cases e
        obtain ⟨z1, z2⟩ := Bool.and_eq_true_iff.mp e3
        have F := fitE_ok (G := G) d _ _ e2
        have hw := Nat.le_of_ble_eq_true z1
        have hk := Nat.le_of_ble_eq_true z2
        have hh := PyData.shown_le 200 (by decide) (d.g G.ρ) F.ls
        have h2 : (200 + 2) * (d.g G.ρ).weight ≤ 202 * 80000 := Nat.mul_le_mul_left _ (Nat.le_trans F.wt hw)
        have hz : (d.g G.ρ).shown.length ≤ sizeLine := by
          rw [sizeLine_eq]
          omega
        obtain ⟨a, ha, rfl⟩ := r
        cases (show u = Value.ref a from ru)
        have un := hr
        exact repr_refE (rdE_ok R _ _ _ _ e1 ⟨a, ha, rfl⟩) F.sh hg (by have := F.dp; omega) hz I (q rfl (.str (d.g G.ρ).shown) (by simp only [VR, SD.g, tx]))
end
end Pm
/-! PmTxt: the text that repr gives has signs alone. -/
namespace Pm
open PySem PySem.Spec
open PyProof.Rows (mem_cps_append mem_join signs_ofString)
def Sg (x : Str) : Prop := ∀ k ∈ x.cps.toList, k < 1114112
theorem char_lt (c : Char) : c.toNat < 1114112 := by
  have h := c.valid
  have e : c.toNat = c.val.toNat := rfl
  rw [e]
  rcases h with h | ⟨_, h⟩
  · have : c.val.toNat < 0xd800 := h
    omega
  · exact h
theorem sg_of (s : String) : Sg (s : Str) := fun k hk => by
  have hk' : k ∈ (Str.ofString s).cps.toList := hk
  rw [signs_ofString] at hk'
  obtain ⟨c, _, e⟩ := List.mem_map.mp hk'
  rw [← e]
  exact char_lt c
theorem sg_app {a b : Str} (h1 : Sg a) (h2 : Sg b) : Sg (a ++ b) := fun k hk => (mem_cps_append.mp hk).elim (h1 k) (h2 k)
theorem sg_join {sep : Str} (hs : Sg sep) {ts : List Str} (h : ∀ t ∈ ts, Sg t) : Sg (Str.join sep ts) := fun k hk => by
  rcases (mem_join sep k ts).mp hk with ⟨t, ht, hc⟩ | ⟨_, hc⟩
  · exact h t ht k hc
  · exact hs k hc
theorem sg_hex (c w : Nat) : ∀ k ∈ (let d := (Nat.toDigits 16 c).map Char.toNat; List.replicate (w - d.length) 48 ++ d), k < 1114112 := fun k hk => by
  rcases List.mem_append.mp hk with hk | hk
  · rw [(List.mem_replicate.mp hk).2]
    decide
  · obtain ⟨z, _, e⟩ := List.mem_map.mp hk
    rw [← e]
    exact char_lt z
theorem sg_char (q c : Nat) (hc : c < 1114112) : ∀ k ∈ Builtin.Str.reprChar q c, k < 1114112 := fun k hk => by
  unfold Builtin.Str.reprChar at hk
  dsimp only at hk
  split at hk
  · rcases List.mem_cons.mp hk with e | hk
    · omega
    · rw [List.mem_singleton.mp hk]; exact hc
  · split at hk
    · simp at hk; omega
    · split at hk
      · simp at hk; omega
      · split at hk
        · simp at hk; omega
        · split at hk
          · rw [List.mem_singleton.mp hk]; exact hc
          · split at hk
            · rcases List.mem_append.mp hk with hk | hk
              · simp at hk; omega
              · exact sg_hex c 2 k hk
            · split at hk
              · rcases List.mem_append.mp hk with hk | hk
                · simp at hk; omega
                · exact sg_hex c 4 k hk
              · rcases List.mem_append.mp hk with hk | hk
                · simp at hk; omega
                · exact sg_hex c 8 k hk
theorem sg_fold (q : Nat) : ∀ (l : List Nat) (acc : Array Nat), (∀ c ∈ l, c < 1114112) → (∀ k ∈ acc.toList, k < 1114112) → ∀ k ∈ (l.foldl (fun out c => out ++ (Builtin.Str.reprChar q c).toArray) acc).toList, k < 1114112
  | [], acc, _, h => h
  | c :: r, acc, hl, h => by
    rw [List.foldl_cons]
    refine sg_fold q r _ (fun x hx => hl x (.tail _ hx)) fun k hk => ?_
    rw [Array.toList_append, List.mem_append] at hk
    rcases hk with hk | hk
    · exact h k hk
    · exact sg_char q c (hl c (.head _)) k (by simpa using hk)
theorem sg_repr {x : Str} (h : Sg x) : Sg (reprText x) := fun k hk => by
  unfold reprText at hk
  have hq : reprQuote x < 1114112 := by
    unfold reprQuote
    split <;> decide
  rw [← Array.foldl_toList] at hk
  dsimp only at hk
  rw [Array.toList_push, List.mem_append] at hk
  rcases hk with hk | hk
  · refine sg_fold _ _ _ h (fun k hk => ?_) k hk
    have : k = reprQuote x := by simpa using hk
    rw [this]
    exact hq
  · rw [List.mem_singleton.mp hk]
    exact hq
theorem sg_ok {x : Str} : PyData.strOk x = true ↔ Sg x := by
  unfold PyData.strOk Sg
  rw [← Array.all_toList, List.all_eq_true]
  constructor
  · exact fun h k hk => of_decide_eq_true (h k hk)
  · exact fun h k hk => decide_eq_true (h k hk)
mutual
theorem sg_shown : ∀ (d : PyData), d.canLay0 = true → Sg d.shown
  | .none, _ => by rw [PyData.shown_none]; exact sg_of _
  | .bool b, _ => by rw [PyData.shown_bool]; cases b <;> exact sg_of _
  | .int i, _ => by rw [PyData.shown_int]; exact sg_of _
  | .str x, h => by
    rw [PyData.shown]
    exact sg_repr (sg_ok.mp (by simpa only [PyData.canLay0] using h))
  | .list xs, h => by
    rw [PyData.shown_list]
    exact sg_app (sg_app (sg_of _) (sg_join (sg_of _) (sg_showns xs (by simpa only [PyData.canLay0] using h)))) (sg_of _)
  | .tuple xs, h => by
    rw [PyData.shown_tuple]
    exact sg_app (sg_app (sg_of _) (sg_join (sg_of _) (sg_showns xs (by simpa only [PyData.canLay0] using h)))) (by split <;> exact sg_of _)
  | .dict _, h => by simp [PyData.canLay0] at h
theorem sg_showns : ∀ (xs : List PyData), PyData.canLayAll0 xs = true → ∀ t ∈ PyData.shownAll xs, Sg t
  | [], _, t, ht => by rw [PyData.shownAll_nil] at ht; cases ht
  | x :: r, h, t, ht => by
    have h' : x.canLay0 = true ∧ PyData.canLayAll0 r = true := by simpa [PyData.canLayAll0] using h
    rw [PyData.shownAll_cons, List.mem_cons] at ht
    rcases ht with e | ht
    · rw [e]; exact sg_shown x h'.1
    · exact sg_showns r h'.2 t ht
end
end Pm
/-! PmEq: == and != of values, in and not in, repr. -/
namespace Pm
open PySem PySem.Spec
open L2 (V Hp HO Cx Inv PE PT PA PS PSs PW TE TT TA TS St VK XK WX Ends RelV Vals upd upd_same upd_ne Takes R2 OpR CallR MtR tOp tVar Vis Gl Room Binds)
/-! ### the same, letter by letter -/
mutual
def sameC : SD → SD → Bool
  | .non, e => (match e with
    | .non => true
    | _ => false)
  | .bl a, e => (match e with
    | .bl b => a == b
    | _ => false)
  | .int a, e => (match e with
    | .int b => ieq a b
    | _ => false)
  | .sym k a c, e => (match e with
    | .sym k' a' c' => Nat.beq k k' && (ieq a a' && ieq c c')
    | _ => false)
  | .str x, e => (match e with
    | .str y => leq x y
    | _ => false)
  | .rep d, e => (match e with
    | .rep e => sameC d e
    | _ => false)
  | .cat a b, e => (match e with
    | .cat c d => sameC a c && sameC b d
    | _ => false)
  | .lst xs, e => (match e with
    | .lst ys => samesC xs ys
    | _ => false)
  | .tup xs, e => (match e with
    | .tup ys => samesC xs ys
    | _ => false)
  | .dct ks vs, e => (match e with
    | .dct ls us => samesC ks ls && samesC vs us
    | _ => false)
def samesC : List SD → List SD → Bool
  | [], e => (match e with
    | [] => true
    | _ => false)
  | x :: xs, e => (match e with
    | [] => false
    | y :: ys => sameC x y && samesC xs ys)
end
def sames (d : List SD) : List SD → Bool := SD.rec_1 (motive_1 := fun _ => SD → Bool) (motive_2 := fun _ => List SD → Bool)
  (fun e => match e with
    | .non => true
    | _ => false)
  (fun a e => match e with
    | .bl b => a == b
    | _ => false)
  (fun a e => match e with
    | .int b => ieq a b
    | _ => false)
  (fun k a c e => match e with
    | .sym k' a' c' => Nat.beq k k' && (ieq a a' && ieq c c')
    | _ => false)
  (fun x e => match e with
    | .str y => leq x y
    | _ => false)
  (fun _ ih e => match e with
    | .rep e => ih e
    | _ => false)
  (fun _ _ ia ib e => match e with
    | .cat c d => ia c && ib d
    | _ => false)
  (fun _ ih e => match e with
    | .lst ys => ih ys
    | _ => false)
  (fun _ ih e => match e with
    | .tup ys => ih ys
    | _ => false)
  (fun _ _ ia ib e => match e with
    | .dct ls us => ia ls && ib us
    | _ => false)
  (fun e => match e with
    | [] => true
    | _ => false)
  (fun _ _ ia ib e => match e with
    | [] => false
    | y :: ys => ia y && ib ys)
  d
mutual
theorem same_eqC : ∀ (d e : SD), same d e = sameC d e
  | .non, e => by unfold sameC; cases e <;> rfl
  | .bl _, e => by unfold sameC; cases e <;> rfl
  | .int _, e => by unfold sameC; cases e <;> rfl
  | .sym _ _ _, e => by unfold sameC; cases e <;> rfl
  | .str _, e => by unfold sameC; cases e <;> rfl
  | .rep d, e => by unfold sameC; cases e <;> first | rfl | exact same_eqC d _
  | .cat a b, e => by
    unfold sameC
    cases e with
    | cat c d =>
      dsimp only
      rw [← same_eqC a c, ← same_eqC b d]
      rfl
    | _ => rfl
  | .dct a b, e => by
    unfold sameC
    cases e with
    | dct c d =>
      dsimp only
      rw [← sames_eqC a c, ← sames_eqC b d]
      rfl
    | _ => rfl
  | .lst xs, e => by unfold sameC; cases e <;> first | rfl | exact sames_eqC xs _
  | .tup xs, e => by unfold sameC; cases e <;> first | rfl | exact sames_eqC xs _
theorem sames_eqC : ∀ (d e : List SD), sames d e = samesC d e
  | [], e => by unfold samesC; cases e <;> rfl
  | x :: xs, [] => by unfold samesC; rfl
  | x :: xs, y :: ys => by
    unfold samesC
    dsimp only
    rw [← same_eqC x y, ← sames_eqC xs ys]
    rfl
end
theorem ieq_eq {i j : Int} (h : ieq i j = true) : i = j := by
  rw [ieq_iff] at h
  exact of_decide_eq_true h
theorem leq_eq {i j : List Nat} (h : leq i j = true) : i = j := by
  rw [leq_ok] at h
  exact of_decide_eq_true h
mutual
theorem sameC_eq : ∀ {d e : SD}, sameC d e = true → d = e
  | .non, e, h => by
    unfold sameC at h
    cases e <;> first | rfl | cases h
  | .bl a, e, h => by
    unfold sameC at h
    cases e with
    | bl b => rw [beq_iff_eq.mp h]
    | _ => cases h
  | .int a, e, h => by
    unfold sameC at h
    cases e with
    | int b => rw [ieq_eq h]
    | _ => cases h
  | .sym k a c, e, h => by
    unfold sameC at h
    cases e with
    | sym k' a' c' =>
      obtain ⟨h1, h2⟩ := Bool.and_eq_true_iff.mp h
      obtain ⟨h2, h3⟩ := Bool.and_eq_true_iff.mp h2
      rw [Nat.eq_of_beq_eq_true h1, ieq_eq h2, ieq_eq h3]
    | _ => cases h
  | .str x, e, h => by
    unfold sameC at h
    cases e with
    | str b => rw [leq_eq h]
    | _ => cases h
  | .rep d, e, h => by
    unfold sameC at h
    cases e with
    | rep b => rw [sameC_eq h]
    | _ => cases h
  | .cat a b, e, h => by
    unfold sameC at h
    cases e with
    | cat c d =>
      obtain ⟨h1, h2⟩ := Bool.and_eq_true_iff.mp h
      rw [sameC_eq h1, sameC_eq h2]
    | _ => cases h
  | .lst xs, e, h => by
    unfold sameC at h
    cases e with
    | lst b => rw [samesC_eq h]
    | _ => cases h
  | .tup xs, e, h => by
    unfold sameC at h
    cases e with
    | tup b => rw [samesC_eq h]
    | _ => cases h
  | .dct ks vs, e, h => by
    unfold sameC at h
    cases e with
    | dct c d =>
      obtain ⟨h1, h2⟩ := Bool.and_eq_true_iff.mp h
      rw [samesC_eq h1, samesC_eq h2]
    | _ => cases h
theorem samesC_eq : ∀ {d e : List SD}, samesC d e = true → d = e
  | [], e, h => by
    unfold samesC at h
    cases e <;> first | rfl | cases h
  | x :: xs, [], h => by
    unfold samesC at h
    cases h
  | x :: xs, y :: ys, h => by
    unfold samesC at h
    obtain ⟨h1, h2⟩ := Bool.and_eq_true_iff.mp h
    rw [sameC_eq h1, samesC_eq h2]
end
theorem same_eq {d e : SD} (h : same d e = true) : d = e := sameC_eq (by rw [← same_eqC]; exact h)
theorem sames_eq {d e : List SD} (h : sames d e = true) : d = e := samesC_eq (by rw [← sames_eqC]; exact h)
/-! ### == -/
theorem small_fit {i : Int} (e : small i = true) : SD.fit (.int i) = some (21, 0) := by
  show (match Nat.blt i.natAbs 1048576 with
    | true => some (21, 0)
    | false => (match int100 i with
      | true => some (700, 0)
      | false => none)) = _
  unfold small at e
  rw [e]
theorem deepEq_eqC {h : AH} {x y : W} : deepEq h x y = deepEqC h x y := by
  cases x with
  | int i =>
    cases y with
    | int j =>
      show (match small i && small j with
        | true => some (ieq i j)
        | false => deepEqC h (.int i) (.int j)) = _
      cases e : small i && small j with
      | false => rfl
      | true =>
        obtain ⟨a, b⟩ := Bool.and_eq_true_iff.mp e
        unfold deepEqC
        show some (ieq i j) = (match SD.fit (.int i) with
          | none => none
          | some (_, k) => (match SD.fit (.int j) with
            | none => none
            | some (_, k') => (match Nat.ble k 64 && Nat.ble k' 64 with
              | true => sdEq (.int i) (.int j)
              | false => none)))
        rw [small_fit a, small_fit b]
        rfl
    | _ => rfl
  | _ => rfl
section
variable {X : Cx} {G : Gx} {Z : WX} {pos : Pos}
theorem deepEq_ok {K : PySem.W.Frag} {m : Mp} {h : AH} {H : Hp} (R : Rel G m h H) {w w' : W} {v v' : V} {b : Bool} (e : deepEq h w w' = some b) (r : VR G m w v) (r' : VR G m w' v') :
    ∃ d d', L2.Dp K H v d ∧ L2.Dp K H v' d' ∧ SeqAt.shaped d = true ∧ SeqAt.shaped d' = true ∧ PyData.eqv d d' = b := by
  rw [deepEq_eqC] at e
  unfold deepEqC at e
  cases e1 : rd 60 h w with
  | none => rw [e1] at e; cases e
  | some d =>
    rw [e1] at e
    dsimp only at e
    cases e2 : rd 60 h w' with
    | none => rw [e2] at e; cases e
    | some d' =>
      rw [e2] at e
      dsimp only at e
      cases e3 : d.fit with
      | none => rw [e3] at e; cases e
      | some p =>
        obtain ⟨w1, k⟩ := p
        rw [e3] at e
        dsimp only at e
        cases e4 : d'.fit with
        | none => rw [e4] at e; cases e
        | some p =>
          obtain ⟨w2, k'⟩ := p
          rw [e4] at e
          dsimp only at e
          cases e5 : Nat.ble k 64 && Nat.ble k' 64 with
          | false => rw [e5] at e; cases e
          | true =>
            rw [e5] at e
            obtain ⟨z1, z2⟩ := Bool.and_eq_true_iff.mp e5
            have F1 := SD.fit_ok (G := G) d _ _ e3
            have F2 := SD.fit_ok (G := G) d' _ _ e4
            exact ⟨_, _, rd_ok R _ _ _ _ e1 r, rd_ok R _ _ _ _ e2 r', Bool.and_eq_true_iff.mpr ⟨F1.lay, decide_eq_true (Nat.le_trans F1.dp (Nat.le_of_ble_eq_true z1))⟩,
              Bool.and_eq_true_iff.mpr ⟨F2.lay, decide_eq_true (Nat.le_trans F2.dp (Nat.le_of_ble_eq_true z2))⟩, sdEq_ok d d' b e⟩
theorem wsame_ok {m m' : Mp} {w w' : W} {v v' : V} (e : wsame w w' = true) (r : VR G m w v) (r' : VR G m' w' v') : v = v' ∧ L2.flatB v = true := by
  unfold wsame at e
  cases w with
  | non =>
    cases w' with
    | non => cases r; cases r'; exact ⟨rfl, rfl⟩
    | _ => cases e
  | bl a =>
    cases w' with
    | bl b => cases r; cases r'; exact ⟨congrArg V.bl (beq_iff_eq.mp e), rfl⟩
    | _ => cases e
  | int a =>
    cases w' with
    | int b => cases r; cases r'; exact ⟨congrArg V.int (ieq_eq e), rfl⟩
    | _ => cases e
  | sym k a c =>
    cases w' with
    | sym k' a' c' =>
      obtain ⟨h1, h2⟩ := Bool.and_eq_true_iff.mp e
      obtain ⟨h2, h3⟩ := Bool.and_eq_true_iff.mp h2
      cases r
      cases r'
      rw [Nat.eq_of_beq_eq_true h1, ieq_eq h2, ieq_eq h3]
      exact ⟨rfl, rfl⟩
    | _ => cases e
  | txt a =>
    cases w' with
    | txt b =>
      cases r
      cases r'
      rw [same_eq e]
      exact ⟨rfl, rfl⟩
    | _ => cases e
  | _ => cases e
theorem keq_ok {k k' : Sum Int (List Nat)} : keq k k' = decide (kof k = kof k') := by
  cases k with
  | inl i =>
    cases k' with
    | inl j =>
      show ieq i j = _
      rw [ieq_iff, Bool.eq_iff_iff]
      simp [kof]
    | inr j => simp [keq, kof]
  | inr i =>
    cases k' with
    | inl j => simp [keq, kof]
    | inr j =>
      show leq i j = _
      rw [leq_ok, Bool.eq_iff_iff]
      simp [kof]
abbrev KR (G : Gx) (m : Mp) : List (Sum Int (List Nat) × W) → List (L2.Key × V) → Prop := Paired fun p q => kof p.1 = q.1 ∧ VR G m p.2 q.2
theorem dsame_ok {m : Mp} : ∀ {ks ls : List (Sum Int (List Nat) × W)} {us vs : List (L2.Key × V)}, dsame ks ls = true → KR G m ks us → KR G m ls vs → us = vs ∧ ∀ p ∈ us, L2.flatB p.2 = true
  | [], [], _, _, _, .nil, .nil => ⟨rfl, fun _ z => nomatch z⟩
  | [], _ :: _, _, _, e, _, _ => by cases e
  | _ :: _, [], _, _, e, _, _ => by cases e
  | (k, w) :: r, (k', w') :: r', (q :: us), (q' :: vs), e, .cons h t, .cons h' t' => by
    obtain ⟨e1, e2⟩ := Bool.and_eq_true_iff.mp e
    obtain ⟨e2, e3⟩ := Bool.and_eq_true_iff.mp e2
    rw [keq_ok] at e1
    have e1' := of_decide_eq_true e1
    obtain ⟨z1, z2⟩ := wsame_ok e2 h.2 h'.2
    obtain ⟨y1, y2⟩ := dsame_ok e3 t t'
    have h1 : kof k = q.1 := h.1
    have h2 : kof k' = q'.1 := h'.1
    refine ⟨?_, fun p hp => ?_⟩
    · rw [y1, show q = q' from Prod.ext (by rw [← h1, ← h2, e1']) z1]
    · rcases List.mem_cons.mp hp with rfl | hp
      · exact z2
      · exact y2 p hp
theorem knodup_ok {m : Mp} : ∀ {ks : List (Sum Int (List Nat) × W)} {us : List (L2.Key × V)}, knodup ks = true → KR G m ks us → (us.map (·.1)).Nodup
  | [], _, _, .nil => List.nodup_nil
  | (k, w) :: r, (q :: us), e, .cons h t => by
    obtain ⟨e1, e2⟩ := Bool.and_eq_true_iff.mp e
    rw [List.map_cons, List.nodup_cons]
    refine ⟨fun z => ?_, knodup_ok e2 t⟩
    have e1' : (r.any fun p => keq k p.1) = false := by simpa using e1
    have main : ∀ {r : List (Sum Int (List Nat) × W)} {us : List (L2.Key × V)}, KR G m r us → q.1 ∈ us.map (·.1) → (r.any fun p => keq k p.1) = true := fun {r us} t => by
      induction t with
      | nil => intro z; cases z
      | cons h' _ ih =>
        intro z
        rw [List.any_cons, Bool.or_eq_true]
        rw [List.map_cons] at z
        rcases List.mem_cons.mp z with z | z
        · left
          rw [keq_ok]
          exact decide_eq_true (h.1.trans (z.trans h'.1.symm))
        · exact .inr (ih z)
    rw [main t z] at e1'
    cases e1'
theorem txtOk_ok {d : SD} (e : txtOk d = true) : PyData.strOk (tx (d.g G.ρ)) = true := by
  unfold txtOk at e
  split at e
  · rename_i x
    rw [sg_ok]
    intro k hk
    have : k ∈ x := by simpa [SD.g, tx] using hk
    exact Nat.le_of_ble_eq_true (List.all_eq_true.mp e k this)
  · have : (tx ((SD.rep (.dct [] [])).g G.ρ)) = ("{}" : Str) := by
      simp only [SD.g, tx, SD.gs, List.zip_nil_right]
      rfl
    rw [this, sg_ok]
    exact sg_of _
  · rename_i d _
    split at e
    · rename_i p ep
      have F := SD.fit_ok (G := G) d p.1 p.2 ep
      rw [sg_ok]
      show Sg (tx (SD.g G.ρ (.rep d)))
      simp only [SD.g, tx]
      exact sg_shown _ F.lay
    · cases e
  · cases e
theorem txtSame_ok {K : PySem.W.Frag} {m : Mp} {H : Hp} : ∀ {xs ys : List W} {vs us : List V}, txtSame xs ys = true → VRs G m xs vs → VRs G m ys us → ∃ ts : List Str, vs = ts.map V.str ∧ us = ts.map V.str ∧ ts.all PyData.strOk = true
  | [], [], _, _, _, .nil, .nil => ⟨[], rfl, rfl, rfl⟩
  | .txt d :: r, .txt e :: t, _, _, h, .cons a1 b1, .cons a2 b2 => by
    unfold txtSame at h
    obtain ⟨h1, h2⟩ := Bool.and_eq_true_iff.mp h
    obtain ⟨h2, h3⟩ := Bool.and_eq_true_iff.mp h2
    obtain ⟨ts, e1, e2, e3⟩ := txtSame_ok (K := K) (H := H) h3 b1 b2
    cases same_eq h1
    cases a1
    cases a2
    exact ⟨tx (d.g G.ρ) :: ts, by rw [e1]; rfl, by rw [e2]; rfl, by rw [List.all_cons, txtOk_ok h2, e3]; rfl⟩
  | [], _ :: _, _, _, h, _, _ => by unfold txtSame at h; cases h
  | .non :: _, _, _, _, h, _, _ => by unfold txtSame at h; cases h
  | .bl _ :: _, _, _, _, h, _, _ => by unfold txtSame at h; cases h
  | .int _ :: _, _, _, _, h, _, _ => by unfold txtSame at h; cases h
  | .sym _ _ _ :: _, _, _, _, h, _, _ => by unfold txtSame at h; cases h
  | .ref _ :: _, _, _, _, h, _, _ => by unfold txtSame at h; cases h
  | .ty _ :: _, _, _, _, h, _, _ => by unfold txtSame at h; cases h
  | .glo _ :: _, _, _, _, h, _, _ => by unfold txtSame at h; cases h
  | .scr :: _, _, _, _, h, _, _ => by unfold txtSame at h; cases h
  | .raw _ :: _, _, _, _, h, _, _ => by unfold txtSame at h; cases h
  | .txt _ :: _, [], _, _, h, _, _ => by unfold txtSame at h; cases h
  | .txt _ :: _, .non :: _, _, _, h, _, _ => by unfold txtSame at h; cases h
  | .txt _ :: _, .bl _ :: _, _, _, h, _, _ => by unfold txtSame at h; cases h
  | .txt _ :: _, .int _ :: _, _, _, h, _, _ => by unfold txtSame at h; cases h
  | .txt _ :: _, .sym _ _ _ :: _, _, _, h, _, _ => by unfold txtSame at h; cases h
  | .txt _ :: _, .ref _ :: _, _, _, h, _, _ => by unfold txtSame at h; cases h
  | .txt _ :: _, .ty _ :: _, _, _, h, _, _ => by unfold txtSame at h; cases h
  | .txt _ :: _, .glo _ :: _, _, _, h, _, _ => by unfold txtSame at h; cases h
  | .txt _ :: _, .scr :: _, _, _, h, _, _ => by unfold txtSame at h; cases h
  | .txt _ :: _, .raw _ :: _, _, _, h, _, _ => by unfold txtSame at h; cases h
theorem strs_lay : ∀ {ts : List Str}, ts.all PyData.strOk = true → PyData.canLayAll0 (ts.map .str) = true
  | [], _ => by simp [PyData.canLayAll0]
  | x :: r, h => by
    rw [List.all_cons, Bool.and_eq_true] at h
    rw [List.map_cons]
    simp only [PyData.canLayAll0, PyData.canLay0]
    exact Bool.and_eq_true_iff.mpr ⟨h.1, strs_lay h.2⟩
theorem strs_dp : ∀ (ts : List Str), PyData.depthAll (ts.map .str) = 0
  | [] => by simp [PyData.depthAll]
  | x :: r => by
    rw [List.map_cons]
    simp only [PyData.depthAll, PyData.depth, strs_dp r]
    rfl
theorem strs_eqv : ∀ (ts : List Str), PyData.eqvAll (ts.map .str) (ts.map .str) = true
  | [] => by simp [PyData.eqvAll]
  | x :: r => by
    rw [List.map_cons]
    simp only [PyData.eqvAll, PyData.eqv, strs_eqv r]
    simp
theorem strs_read {K : PySem.W.Frag} {H : Hp} : ∀ (ts : List Str), L2.DpAll K H (ts.map V.str) (ts.map PyData.str)
  | [] => .nil
  | x :: r => .cons (.str x) (strs_read r)
theorem eqX_ok {K : PySem.W.Frag} {m : Mp} {h : AH} {H : Hp} (R : Rel G m h H) {w w' : W} {v v' : V} {b : Bool} (e : eqX h w w' = some b) (r : VR G m w v) (r' : VR G m w' v') :
    ∃ d d', L2.Dp K H v d ∧ L2.Dp K H v' d' ∧ SeqAt.shaped d = true ∧ SeqAt.shaped d' = true ∧ PyData.eqv d d' = b := by
  unfold eqX at e
  cases e0 : deepEq h w w' with
  | some c =>
    rw [e0] at e
    cases e
    exact deepEq_ok R e0 r r'
  | none =>
    rw [e0] at e
    dsimp only at e
    unfold txtEq at e
    split at e
    · rename_i l
      split at e
      · rename_i xs e1
        split at e
        · rename_i l2
          split at e
          · rename_i ys e2
            split at e
            · rename_i e3
              cases e
              obtain ⟨a, ha, rfl⟩ := r
              obtain ⟨a', ha', rfl⟩ := r'
              obtain ⟨_, o1, vs, r1, rfl⟩ := R.see ha e1
              obtain ⟨_, o2, us, r2, rfl⟩ := R.see ha' e2
              obtain ⟨ts, rfl, rfl, ok⟩ := txtSame_ok (K := K) (H := H) e3 r1 r2
              have sh : SeqAt.shaped (.list (ts.map .str)) = true := by
                refine Bool.and_eq_true_iff.mpr ⟨?_, decide_eq_true ?_⟩
                · simp only [PyData.canLay0]
                  exact strs_lay ok
                · simp only [PyData.depth, strs_dp]
                  decide
              exact ⟨_, _, .lst (.inl (.inl o1)) (strs_read ts), .lst (.inl (.inl o2)) (strs_read ts), sh, sh, by simp only [PyData.eqv, strs_eqv]⟩
            · cases e
          · cases e
        · cases e
      · cases e
    · cases e
theorem eqB_read {K : PySem.W.Frag} {m : Mp} {h : AH} {H : Hp} (R : Rel G m h H) {w w' : W} {v v' : V} {b : Bool} (e : eqB h w w' = some b) (r : VR G m w v) (r' : VR G m w' v') :
    (∃ d d', L2.Dp K H v d ∧ L2.Dp K H v' d' ∧ SeqAt.shaped d = true ∧ SeqAt.shaped d' = true ∧ PyData.eqv d d' = b) ∨ (b = true ∧ ∃ s : Str, v = .str s ∧ v' = .str s) ∨
      (b = true ∧ ∃ a a' kvs, v = .ref a ∧ v' = .ref a' ∧ H a = some (.dK kvs) ∧ H a' = some (.dK kvs) ∧ (kvs.map (·.1)).Nodup ∧ ∀ p ∈ kvs, L2.flatB p.2 = true) := by
  unfold eqB at e
  cases w with
  | txt d =>
    cases w' with
    | txt d' =>
      dsimp only at e
      cases e1 : same d d' with
      | false =>
        rw [e1] at e
        exact .inl (deepEq_ok R e r r')
      | true =>
        rw [e1] at e
        cases e
        cases r
        cases r'
        rw [same_eq e1]
        exact .inr (.inl ⟨rfl, _, rfl, rfl⟩)
    | _ => exact .inl (deepEq_ok R e r r')
  | ref l =>
    dsimp only at e
    cases e1 : h.get l with
    | none =>
      rw [e1] at e
      exact .inl (eqX_ok R e r r')
    | some c =>
      rw [e1] at e
      cases c with
      | dct ks =>
        dsimp only at e
        cases w' with
        | ref l2 =>
          dsimp only at e
          cases e2 : h.get l2 with
          | none => rw [e2] at e; cases e
          | some c2 =>
            rw [e2] at e
            cases c2 with
            | dct ls =>
              dsimp only at e
              cases e3 : knodup ks && dsame ks ls with
              | false => rw [e3] at e; cases e
              | true =>
                rw [e3] at e
                cases e
                obtain ⟨z1, z2⟩ := Bool.and_eq_true_iff.mp e3
                obtain ⟨a, ha, rfl⟩ := r
                obtain ⟨a', ha', rfl⟩ := r'
                obtain ⟨_, o1, us, r1, rfl⟩ := R.see ha e1
                obtain ⟨_, o2, vs, r2, rfl⟩ := R.see ha' e2
                obtain ⟨y1, y2⟩ := dsame_ok z2 r1 r2
                subst y1
                exact .inr (.inr ⟨rfl, a, a', us, rfl, rfl, o1, o2, knodup_ok z1 r1, y2⟩)
            | _ => cases e
        | _ => cases e
      | _ => exact .inl (eqX_ok R e r r')
  | _ => exact .inl (deepEq_ok R e r r')
theorem lenB_read {m : Mp} {h : AH} {H : Hp} (R : Rel G m h H) {w w' : W} {v v' : V} {b : Bool} (e : lenB h w w' = some b) (r : VR G m w v) (r' : VR G m w' v') :
    b = false ∧ ∃ a a' vs us, v = .ref a ∧ v' = .ref a' ∧ H a = some (.lst vs) ∧ H a' = some (.lst us) ∧ vs.length ≠ us.length := by
  unfold lenB at e
  cases w with
  | ref l =>
    cases w' with
    | ref l2 =>
      dsimp only at e
      cases e1 : h.get l with
      | none => rw [e1] at e; cases e
      | some c =>
        rw [e1] at e
        cases c with
        | lst xs =>
          dsimp only at e
          cases e2 : h.get l2 with
          | none => rw [e2] at e; cases e
          | some c2 =>
            rw [e2] at e
            cases c2 with
            | lst ys =>
              dsimp only at e
              cases e3 : Nat.beq xs.length ys.length with
              | true => rw [e3] at e; cases e
              | false =>
                rw [e3] at e
                cases e
                obtain ⟨a, ha, rfl⟩ := r
                obtain ⟨a', ha', rfl⟩ := r'
                obtain ⟨_, o1, us, r1, rfl⟩ := R.see ha e1
                obtain ⟨_, o2, vs, r2, rfl⟩ := R.see ha' e2
                refine ⟨rfl, a, a', us, vs, rfl, rfl, o1, o2, fun z => ?_⟩
                rw [← PySem.Paired.length r1, ← PySem.Paired.length r2] at z
                rw [z, Nat.beq_refl] at e3
                cases e3
            | _ => cases e
        | _ => cases e
    | _ => cases e
  | _ => cases e
def rLen (b : Bool) : R2 := fun x y H Q => ∃ a a' vs us, x = .ref a ∧ y = .ref a' ∧ H a = some (.lst vs) ∧ H a' = some (.lst us) ∧ vs.length ≠ us.length ∧ Q (.bl b) H
theorem len_ne {X : Cx} {pins : List (Addr × Obj)} {σ : St} {H : Hp} {s : Shared} (I : Inv X pins σ H s) {a a' : Addr} {vs us : List V} (e1 : H a = some (.lst vs)) (e2 : H a' = some (.lst us)) (n : vs.length ≠ us.length) :
    ∃ i1 i2 : Array Value, s.heap.IsList a i1 ∧ s.heap.IsList a' i2 ∧ (i1.size != i2.size) = true := by
  obtain ⟨x1, r1, l1, _⟩ := I.list (.inl (.inl e1))
  obtain ⟨x2, r2, l2, _⟩ := I.list (.inl (.inl e2))
  refine ⟨_, _, l1.isList, l2.isList, ?_⟩
  have q1 : vs.length = x1.length := PySem.Paired.length r1
  have q2 : us.length = x2.length := PySem.Paired.length r2
  rw [bne_iff_ne]
  intro z
  have z' : x1.length = x2.length := by simpa using z
  omega
theorem op_lenEq (hu : X.A.units < cLine) : OpR X (compareOp .Eq) (rLen false) := by
  intro pins s σ H x y v u Q I rx ry h
  obtain ⟨a, a', vs, us, rfl, rfl, e1, e2, n, q⟩ := h
  obtain rfl : v = Value.ref a := rx
  obtain rfl : u = Value.ref a' := ry
  obtain ⟨i1, i2, l1, l2, z⟩ := len_ne I e1 e2 n
  exact SeqAt.RcAt.lists_lengths l1 l2 z hu X.prog X.w X.xe _ ⟨.bl false, H, I, rfl, q⟩
theorem op_lenNe (hu : X.A.units < cLine) : OpR X (compareOp .NotEq) (rLen true) := by
  intro pins s σ H x y v u Q I rx ry h
  obtain ⟨a, a', vs, us, rfl, rfl, e1, e2, n, q⟩ := h
  obtain rfl : v = Value.ref a := rx
  obtain rfl : u = Value.ref a' := ry
  obtain ⟨i1, i2, l1, l2, z⟩ := len_ne I e1 e2 n
  exact SeqAt.RcNeAt.lists_lengths l1 l2 z hu X.prog X.w X.xe _ ⟨.bl true, H, I, rfl, q⟩
theorem or_eq {k : Nat} (hr : Room k X.A) : OpR X (compareOp .Eq) (rO G oEq) := opr_of ((((L2.op_eqD hr.units).or L2.op_eq).or (L2.op_eq_dict hr.units0)).or (op_lenEq hr.units0)) fun x y H Q h => by
  obtain ⟨m, h, a, b, R, ra, rb, q⟩ := h
  unfold oEq at q
  cases e : eqL h a b with
  | none =>
    rw [e] at q
    exact q.elim
  | some t =>
    rw [e] at q
    have q' := q m H (.bl t) (.refl m) R rfl
    unfold eqL at e
    cases e0 : eqB h a b with
    | some t2 =>
      rw [e0] at e
      cases e
      rcases eqB_read (K := X.K) R e0 ra rb with ⟨d, d', h1, h2, h3, h4, rfl⟩ | ⟨rfl, s, rfl, rfl⟩ | ⟨rfl, a, a', kvs, rfl, rfl, o1, o2, nd, fl⟩
      · exact .inl (.inl (.inl ⟨d, d', h1, h2, h3, h4, q'⟩))
      · exact .inl (.inl (.inr ⟨rfl, by rw [decide_eq_true rfl]; exact q'⟩))
      · exact .inl (.inr ⟨a, a', kvs, rfl, rfl, o1, o2, nd, fl, q'⟩)
    | none =>
      rw [e0] at e
      obtain ⟨rfl, a, a', vs, us, rfl, rfl, o1, o2, n⟩ := lenB_read R e ra rb
      exact .inr ⟨a, a', vs, us, rfl, rfl, o1, o2, n, q'⟩
theorem or_ne {k : Nat} (hr : Room k X.A) : OpR X (compareOp .NotEq) (rO G oNe) := opr_of ((((L2.op_neD hr.units).or L2.op_ne).or (L2.op_ne_dictA hr.units0)).or (op_lenNe hr.units0)) fun x y H Q h => by
  obtain ⟨m, h, a, b, R, ra, rb, q⟩ := h
  unfold oNe at q
  cases e : eqL h a b with
  | none =>
    rw [e] at q
    exact q.elim
  | some t =>
    rw [e] at q
    have q' := q m H (.bl (!t)) (.refl m) R rfl
    unfold eqL at e
    cases e0 : eqB h a b with
    | some t2 =>
      rw [e0] at e
      cases e
      rcases eqB_read (K := X.K) R e0 ra rb with ⟨d, d', h1, h2, h3, h4, rfl⟩ | ⟨rfl, s, rfl, rfl⟩ | ⟨rfl, a, a', kvs, rfl, rfl, o1, o2, nd, fl⟩
      · exact .inl (.inl (.inl ⟨d, d', h1, h2, h3, h4, q'⟩))
      · exact .inl (.inl (.inr ⟨rfl, by rw [decide_eq_true rfl]; exact q'⟩))
      · exact .inl (.inr ⟨a, a', kvs, kvs, rfl, rfl, o1, o2, rfl, fun p hp => ⟨L2.val_nodup nd p hp, fl p hp⟩, q'⟩)
    | none =>
      rw [e0] at e
      obtain ⟨rfl, a, a', vs, us, rfl, rfl, o1, o2, n⟩ := lenB_read R e ra rb
      exact .inr ⟨a, a', vs, us, rfl, rfl, o1, o2, n, q'⟩
/-! ### repr -/
theorem fitR_ok {d : SD} (e : fitR d = true) : ∃ w k, Fit (d.g G.ρ) w k ∧ w ≤ 80000 ∧ k ≤ 64 ∧ (d.g G.ρ).shown.length ≤ sizeLine := by
  unfold fitR at e
  cases e3 : d.fit with
  | none => rw [e3] at e; cases e
  | some p =>
    obtain ⟨w, k⟩ := p
    rw [e3] at e
    obtain ⟨z1, z2⟩ := Bool.and_eq_true_iff.mp e
    have F := SD.fit_ok (G := G) d _ _ e3
    refine ⟨w, k, F, Nat.le_of_ble_eq_true z1, Nat.le_of_ble_eq_true z2, ?_⟩
    have h := PyData.shown_le 200 (by decide) _ F.ls
    have h2 : (200 + 2) * (d.g G.ρ).weight ≤ 202 * 80000 := Nat.mul_le_mul_left _ (Nat.le_trans F.wt (Nat.le_of_ble_eq_true z1))
    rw [sizeLine_eq]
    omega
theorem repr_refs {pins : List (Addr × Obj)} {σ : St} {H : Hp} {s : Shared} {Q : VK} {d : PyData} {a : Addr} {as : List Addr} (r : Reads s.heap (.ref a) d as) (hs : d.showable = true) (hsm : d.hasDict = true → sysModules ∉ as) (hg : X.A.guards = some []) (hu : X.A.units + (d.depth + 1) < cLine) (hsz : d.shown.length ≤ sizeLine) (I : Inv X pins σ H s) (q : Q (.str d.shown) H) :
    wpAny (model X.prog X.w) X.A (call (.builtin "repr") [.ref a]) (L2.EP X pins σ Q) X.xe s :=
  repr_of_reads' (h₀ := s.heap) r hs hsm hg hu (fun _ _ x => x) (fun h' u tk kp => ⟨.str d.shown, H, I.kept kp, ⟨u, rfl⟩, q⟩) hsz
theorem repr_flat {pins : List (Addr × Obj)} {σ : St} {H : Hp} {s : Shared} {Q : VK} {d : PyData} {v : V} {u : Value} (hg : X.A.guards = some []) (hr : X.A.units + 200 < cLine) (I : Inv X pins σ H s) (hd : L2.Dp X.K H v d) (ru : RelV v u) {w k' : Nat} (F : Fit d w k') (hk : k' ≤ 64) (hz : d.shown.length ≤ sizeLine) (q : Q (.str d.shown) H) :
    wpAny (model X.prog X.w) X.A (call (.builtin "repr") [u]) (L2.EP X pins σ Q) X.xe s := by
  obtain ⟨as, rr⟩ := L2.Dp.reads I d v u hd ru
  have e := hr
  have ref : ∀ {a : Addr}, u = .ref a → wpAny (model X.prog X.w) X.A (call (.builtin "repr") [u]) (L2.EP X pins σ Q) X.xe s := fun {a} eu => by
    subst eu
    exact repr_refs rr F.sh (PyData.noDict_hsm F.nd) hg (by have := F.dp; omega) hz I q
  cases hd with
  | non =>
    cases ru
    exact PySem.P.repr_of_none ⟨.str PyData.none.shown, H, I.tok _, ⟨s.toks, rfl⟩, q⟩
  | bl b =>
    cases ru
    refine PySem.P.repr_of_bool ⟨.str (PyData.bool b).shown, H, I.tok _, ⟨s.toks, ?_⟩, q⟩
    cases b <;> rfl
  | int i =>
    obtain ⟨t, rfl⟩ := ru
    exact PySem.P.repr_of_int (by have := F.sh; simpa only [PyData.showable, decide_eq_true_eq] using this) ⟨.str (PyData.int i).shown, H, I.tok _, ⟨s.toks, rfl⟩, q⟩
  | str x =>
    obtain ⟨t, rfl⟩ := ru
    exact PySem.P.repr_of_str ⟨.str (PyData.str x).shown, H, I.tok _, ⟨s.toks, rfl⟩, q⟩ hz
  | lst _ _ =>
    exact ref ru
  | tup _ _ =>
    exact ref ru
theorem reads_flat {m : Mp} {hp : Heap} {w : W} {d : SD} {v : V} {u : Value} (e : flatD w = some d) (r : VR G m w v) (ru : RelV v u) : Reads hp u (d.g G.ρ) [] := by
  cases w with
  | non => cases e; cases r; cases ru; exact .none
  | bl b => cases e; cases r; cases ru; exact .bool b
  | int i => cases e; cases r; obtain ⟨t, rfl⟩ := ru; exact .int i t
  | sym k a c => cases e; cases r; obtain ⟨t, rfl⟩ := ru; exact .int _ t
  | txt d =>
    cases d with
    | str x => cases e; cases r; obtain ⟨t, rfl⟩ := ru; exact .str _ t
    | _ => cases e
  | _ => cases e
theorem reads_key {hp : Heap} {k : Sum Int (List Nat)} {u : Value} (h : L2.keyIs (kof k) u = true) : Reads hp u ((dkey k).g G.ρ) [] := by
  rcases L2.keyIs_shape h with ⟨i, t, e, rfl⟩ | ⟨x, t, e, rfl⟩
  · cases k with
    | inl j =>
      cases e
      exact .int i t
    | inr j => cases e
  · cases k with
    | inl j => cases e
    | inr j =>
      cases e
      exact .str _ t
theorem reads_dct {P : Program} {w : World} {m : Mp} {hp : Heap} : ∀ {ks : List (Sum Int (List Nat) × W)} {kvs : List (L2.Key × V)} {vs : List (L2.Key × Value)} {es : List DictEntry} {ds : List SD}, KR G m ks kvs → L2.KV kvs vs → Pairs (L2.mixKind P w) es vs → rds flatD (ks.map (·.2)) = some ds →
    ReadsAll hp (es.map (·.key)) (SD.gs G.ρ (ks.map fun p => dkey p.1)) [] ∧ ReadsAll hp (es.map (·.val)) (SD.gs G.ρ ds) [] ∧ ds.length = ks.length
  | [], _, _, _, ds, .nil, .nil, .nil, e => by
    cases e
    exact ⟨.nil, .nil, rfl⟩
  | (k, w) :: r, _, _, _, ds, .cons h t, .cons h' t', .cons h1 h2 h3, e => by
    rw [List.map_cons] at e
    rw [rds_c] at e
    cases e1 : flatD w with
    | none => rw [e1] at e; cases e
    | some d =>
      rw [e1] at e
      dsimp only at e
      cases e2 : rds flatD (r.map (·.2)) with
      | none => rw [e2] at e; cases e
      | some dr =>
        rw [e2] at e
        cases e
        obtain ⟨z1, z2, z3⟩ := reads_dct t t' h3 e2
        have hk : L2.keyIs (kof k) _ = true := (show kof k = _ from h.1.trans h'.1) ▸ h1
        have a1 := ReadsAll.cons (reads_key (G := G) hk) z1
        have a2 := ReadsAll.cons (reads_flat e1 h.2 (h2 ▸ h'.2)) z2
        exact ⟨a1, a2, congrArg Nat.succ z3⟩
theorem zip_fits : ∀ {ks vs : List PyData} {w k w' k' : Nat}, Fits ks w k → Fits vs w' k' → PyData.showableKv (ks.zip vs) = true ∧ PyData.depthKv (ks.zip vs) ≤ max k k' ∧ PyData.leavesShortKv 200 (ks.zip vs) = true ∧ PyData.weightKv (ks.zip vs) ≤ w + w'
  | [], _, _, _, _, _, _, _ => ⟨by simp [PyData.showableKv], by simp [PyData.depthKv], by simp [PyData.leavesShortKv], by simp [PyData.weightKv]⟩
  | _ :: _, [], _, _, _, _, _, _ => ⟨by simp [PyData.showableKv], by simp [PyData.depthKv], by simp [PyData.leavesShortKv], by simp [PyData.weightKv]⟩
  | a :: ks, b :: vs, w, k, w', k', F, F' => by
    obtain ⟨f1, f2, f3, f4, f5, f6⟩ := F
    obtain ⟨g1, g2, g3, g4, g5, g6⟩ := F'
    simp only [PyData.canLayAll0, PyData.weightAll, PyData.depthAll, PyData.showableAll, PyData.leavesShortAll, PyData.hasDictAll, Bool.and_eq_true, Bool.or_eq_false_iff] at f1 f2 f3 f4 f5 f6 g1 g2 g3 g4 g5 g6
    have f3' := Nat.max_le.mp f3
    have g3' := Nat.max_le.mp g3
    obtain ⟨z1, z2, z3, z4⟩ := zip_fits (ks := ks) (vs := vs) (w := PyData.weightAll ks) (k := k) (w' := PyData.weightAll vs) (k' := k') ⟨f1.2, Nat.le_refl _, f3'.2, f4.2, f5.2, f6.2⟩ ⟨g1.2, Nat.le_refl _, g3'.2, g4.2, g5.2, g6.2⟩
    refine ⟨by simp only [List.zip_cons_cons, PyData.showableKv, Bool.and_eq_true]; exact ⟨⟨f4.1, g4.1⟩, z1⟩, ?_, by simp only [List.zip_cons_cons, PyData.leavesShortKv, Bool.and_eq_true]; exact ⟨⟨f5.1, g5.1⟩, z3⟩, ?_⟩
    · simp only [List.zip_cons_cons, PyData.depthKv]
      exact Nat.max_le.mpr ⟨Nat.max_le.mpr ⟨Nat.le_trans f3'.1 (Nat.le_max_left _ _), Nat.le_trans g3'.1 (Nat.le_max_right _ _)⟩, z2⟩
    · simp only [List.zip_cons_cons, PyData.weightKv]
      omega
theorem gs_len (ρ : Nat → Int) : ∀ ds : List SD, (SD.gs ρ ds).length = ds.length
  | [] => by simp [SD.gs]
  | _ :: r => by simp [SD.gs, gs_len ρ r]
theorem rdd_read {h : AH} {w : W} {d : SD} (e : rdd h w = some d) : ∃ l ks vs, w = .ref l ∧ h.get l = some (.dct ks) ∧ rds flatD (ks.map (·.2)) = some vs ∧ d = .dct (ks.map fun p => dkey p.1) vs := by
  unfold rdd at e
  cases w with
  | ref l =>
    dsimp only at e
    cases e1 : h.get l with
    | none => rw [e1] at e; cases e
    | some c =>
      rw [e1] at e
      cases c with
      | dct ks =>
        dsimp only at e
        cases e2 : rds flatD (ks.map (·.2)) with
        | none => rw [e2] at e; cases e
        | some vs =>
          rw [e2] at e
          cases e
          exact ⟨l, ks, vs, rfl, e1, e2, rfl⟩
      | _ => cases e
  | _ => cases e
theorem cr_reprU (hr : X.A.units + 200 < cLine) (hg : X.A.guards = some []) : CallR X (.builtin "repr") (rN G oRepr) := fun pins s σ H xs us Q I rx h => by
  obtain ⟨m, h, as, R, rs, q⟩ := h
  cases rs with
  | nil => exact q.elim
  | cons r t =>
    cases t with
    | cons _ _ => exact q.elim
    | nil =>
      rename_i w v
      obtain ⟨u, rfl, ru⟩ := L2.vals1 rx
      unfold oRepr at q
      dsimp only at q
      cases e : rd 60 h w with
      | some d =>
        rw [e] at q
        dsimp only at q
        cases e2 : fitR d with
        | false =>
          rw [e2] at q
          exact q.elim
        | true =>
          rw [e2] at q
          obtain ⟨w1, k1, F, _, h2, h3⟩ := fitR_ok (G := G) e2
          exact repr_flat hg hr I (rd_ok R _ _ _ _ e r) ru F h2 h3 (q m H (.str (d.g G.ρ).shown) (.refl m) R (by simp only [VR, SD.g, tx]))
      | none =>
        rw [e] at q
        dsimp only at q
        cases e2 : rdd h w with
        | none =>
          rw [e2] at q
          dsimp only at q
          cases w with
          | ref l =>
            dsimp only at q
            cases e9 : reprE h (.ref l) with
            | none =>
              rw [e9] at q
              exact q.elim
            | some p =>
              obtain ⟨t, h'⟩ := p
              rw [e9] at q
              exact reprE_ok e9 R r ru hg hr I fun eh b hb => q m H b (.refl m) (by rw [eh]; exact R) hb
          | _ => exact q.elim
        | some d =>
          obtain ⟨l, ks, vs, rfl, e1, e3, rfl⟩ := rdd_read e2
          rw [e2] at q
          dsimp only at q
          cases e4 : SD.fits (ks.map fun p => dkey p.1) with
          | none =>
            rw [e4] at q
            exact q.elim
          | some p =>
            obtain ⟨w1, k1⟩ := p
            rw [e4] at q
            dsimp only at q
            cases e5 : SD.fits vs with
            | none =>
              rw [e5] at q
              exact q.elim
            | some p =>
              obtain ⟨w2, k2⟩ := p
              rw [e5] at q
              dsimp only at q
              cases e6 : Nat.ble (w1 + w2) 80000 && (Nat.ble k1 50 && Nat.ble k2 50) with
              | false =>
                rw [e6] at q
                exact q.elim
              | true =>
                rw [e6] at q
                obtain ⟨y1, y2⟩ := Bool.and_eq_true_iff.mp e6
                obtain ⟨y2, y3⟩ := Bool.and_eq_true_iff.mp y2
                have y1' := Nat.le_of_ble_eq_true y1
                have y2' := Nat.le_of_ble_eq_true y2
                have y3' := Nat.le_of_ble_eq_true y3
                obtain ⟨a, ha, rfl⟩ := r
                obtain ⟨_, o1, kvs, r1, rfl⟩ := R.see ha e1
                obtain ⟨_, hs, va, rk, ob, es, ep, g1, g2, g3, g4, g5, g6⟩ := (show L2.ObjOk X.prog X.w H s.heap a (.dK kvs) from I.hok a _ o1)
                obtain ⟨x1, x2, x3⟩ := reads_dct (hp := s.heap) r1 rk g5 e3
                obtain ⟨z1, z2, z3, z4⟩ := zip_fits (SD.fits_ok (G := G) _ _ _ e4) (SD.fits_ok (G := G) _ _ _ e5)
                have hl : (SD.gs G.ρ (ks.map fun p => dkey p.1)).length = (SD.gs G.ρ vs).length := by
                  rw [gs_len, gs_len, x3, List.length_map]
                have m1 : ((SD.gs G.ρ (ks.map fun p => dkey p.1)).zip (SD.gs G.ρ vs)).map (·.1) = SD.gs G.ρ (ks.map fun p => dkey p.1) := List.map_fst_zip (Nat.le_of_eq hl)
                have m2 : ((SD.gs G.ρ (ks.map fun p => dkey p.1)).zip (SD.gs G.ρ vs)).map (·.2) = SD.gs G.ρ vs := List.map_snd_zip (Nat.le_of_eq hl.symm)
                have rr : Reads s.heap (.ref a) (.dict ((SD.gs G.ρ (ks.map fun p => dkey p.1)).zip (SD.gs G.ρ vs))) (a :: [] ++ []) := .dict g1 g2.1 g3 (m1.symm ▸ x1) (m2.symm ▸ x2)
                cases (show u = Value.ref a from ru)
                have un := hr
                have hsm : sysModules ∉ a :: [] ++ [] := fun z => by
                  have z' : sysModules = a := by simpa using z
                  rw [← z'] at hs
                  simp at hs
                have hsh : (PyData.dict ((SD.gs G.ρ (ks.map fun p => dkey p.1)).zip (SD.gs G.ρ vs))).showable = true := by
                  simp only [PyData.showable]
                  exact z1
                have hdp : (PyData.dict ((SD.gs G.ρ (ks.map fun p => dkey p.1)).zip (SD.gs G.ρ vs))).depth ≤ 51 := by
                  simp only [PyData.depth]
                  have : max k1 k2 ≤ 50 := Nat.max_le.mpr ⟨y2', y3'⟩
                  omega
                have hsz : (PyData.dict ((SD.gs G.ρ (ks.map fun p => dkey p.1)).zip (SD.gs G.ρ vs))).shown.length ≤ sizeLine := by
                  have hh := PyData.shown_le 200 (by decide) (.dict ((SD.gs G.ρ (ks.map fun p => dkey p.1)).zip (SD.gs G.ρ vs))) (by simp only [PyData.leavesShort]; exact z3)
                  have h2 : (200 + 2) * (PyData.dict ((SD.gs G.ρ (ks.map fun p => dkey p.1)).zip (SD.gs G.ρ vs))).weight ≤ 202 * 80000 := Nat.mul_le_mul_left _ (by simp only [PyData.weight]; omega)
                  rw [sizeLine_eq]
                  omega
                have hq := q m H (.str (PyData.dict ((SD.gs G.ρ (ks.map fun p => dkey p.1)).zip (SD.gs G.ρ vs))).shown) (.refl m) R (by simp only [VR, SD.g, tx])
                generalize PyData.dict ((SD.gs G.ρ (ks.map fun p => dkey p.1)).zip (SD.gs G.ρ vs)) = D at rr hsh hdp hsz hq
                exact repr_refs rr hsh (fun _ => hsm) hg (by omega) hsz I hq
theorem room_u {k : Nat} {A : Around} (hr : Room k A) : A.units + 200 < cLine := by
  have := hr.un
  omega
theorem cr_repr {k : Nat} (hr : Room k X.A) (hg : X.A.guards = some []) : CallR X (.builtin "repr") (rN G oRepr) := cr_reprU (room_u hr) hg
end
end Pm
/-! PmExc0: errors over ValueError whose __init__ says super().__init__(value) and self.value = value. -/
namespace PySem
namespace TieX
open PySem.W PySem.Calls PyProof.Rows PySem.HandSPX
/-! ### ValueError.__init__ bound -/
abbrev bwV (x : Addr) : Obj := { cls := .type "method-wrapper", dict := none, data := .fields #[.builtin "ValueError.__init__", .ref x], slots := #[] }
theorem type_vi : typeOf (.builtin "ValueError.__init__") = pure (.type "wrapper_descriptor") := by show builtinType _ = _; rw [builtinType_eq_fast]; kernel_rfl
theorem nacV : (kfb_private% "nameAndClass") (Value.builtin "ValueError.__init__") = (pure (("__init__" : Str), Value.type "ValueError") : Sem (Str × Value)) := by kernel_rfl
section
variable {prog : Program} {w : World} {M : Model} {A : Around} {E : Value → Shared → Prop} {h : Heap} {g : Array GenState} {d : Drawn} {t : Nat} {os : OsState}
theorem run_wdV {x C : Addr} {P : Fin → Shared → Prop} (hin : W.Looks M h (isInstance (.ref x) (.type "ValueError")) true) (hq : P (.done (.ret (.ref h.objs.size))) ⟨h.push (bwV x), g, d, t, os⟩) :
    wpAny M A (Builtin.«wrapper_descriptor.__get__» ⟨[.builtin "ValueError.__init__", .ref x, .ref C], []⟩) P E ⟨h, g, d, t, os⟩ := by
  unfold Builtin.«wrapper_descriptor.__get__»
  refine wpAny_bind (wpAny_of_eq (a := (.builtin "ValueError.__init__", some (.ref x), some (.ref C))) (by first | rfl | kernel_rfl) ?_)
  show wpAny M A ((kfb_private% "checkInstance") (.builtin "ValueError.__init__") (.ref x) >>= fun _ => newFields "method-wrapper" [.builtin "ValueError.__init__", .ref x] >>= fun r => ret r) P E _
  refine wpAny_bind ?_
  show wpAny M A ((kfb_private% "nameAndClass") (.builtin "ValueError.__init__") >>= _) _ E _
  refine wpAny_bind (wpAny_of_eq nacV ?_)
  show wpAny M A (isInstance (.ref x) (.type "ValueError") >>= _) _ E _
  refine wpAny_bind (hin.at ?_)
  refine KFB.if_not rfl ?_
  refine wpAny_pure ?_
  exact wpAny_bind (wpAny_newObj_type (wpAny_pure hq))
theorem super_gaV {so D x C : Addr} {l₀ l : List Value} {K : Frag} {name : Str} {tk : Tok} {Q : Fin → Shared → Prop}
    (hso : h.get? so = some { cls := .type "super", dict := none, data := .fields #[.ref D, .ref x, .ref C], slots := #[] }) (hno : W.Looks (model prog w) h (opaqueClassAbove (.ref C)) none)
    (hC : W.Looks (model prog w) h (mroOf (.ref C)) l₀) (hl : (l₀.dropWhile (· != .ref D)).drop 1 = l) (X : K.In h)
    (hf : alongIn K name l = some (some (.builtin "ValueError.__init__"))) (hxC : x ≠ C) (hn : (name == ("__class__" : Str)) = false) (hin : W.Looks (model prog w) h (isInstance (.ref x) (.type "ValueError")) true)
    (hq : Q (.done (.ret (.ref h.objs.size))) ⟨h.push (bwV x), g, d, t, os⟩) :
    wpAny (model prog w) A (Builtin.«super.__getattribute__» ⟨[.ref so, .str name tk], []⟩) Q E ⟨h, g, d, t, os⟩ := by
  have hlk := ESX.slot_wd.lookup
  have hne : (Value.ref x == Value.ref C) = false := by simp [hxC]
  have hTf := type_vi
  have hTi : Shared.TypeIs ⟨h, g, d, t, os⟩ (.builtin "ValueError.__init__") "wrapper_descriptor" := type_vi
  have hdt : ({ cls := .type "super", dict := none, data := .fields #[.ref D, .ref x, .ref C], slots := #[] } : Obj).data = .fields #[.ref D, .ref x, .ref C] := rfl
  have f0 : (#[.ref D, .ref x, .ref C] : Array Value)[0]? = some (.ref D) := rfl
  have f1 : (#[.ref D, .ref x, .ref C] : Array Value)[1]? = some (.ref x) := rfl
  have f2 : (#[.ref D, .ref x, .ref C] : Array Value)[2]? = some (.ref C) := rfl
  unfold Builtin.«super.__getattribute__»
  repeat (first
    | (with_reducible refine wpAny_field hso hdt f0 ?_) | (with_reducible refine wpAny_field hso hdt f1 ?_) | (with_reducible refine wpAny_field hso hdt f2 ?_)
    | (with_reducible refine ks_wpAny_notOpaque hno ?_)
    | (with_reducible refine Looks.at hC ?_; rw [hl])
    | (refine ks_forIn_along X (fun _ _ => rfl) rfl ?_ hf)
    | (with_reducible refine wpAny_call_entry ESX.slot_wd hTi ESX.entry_wd ?_ (ESX.args_wd _ _ _))
    | (with_reducible refine run_wdV hin ?_)
    | (with_reducible refine ⟨_, rfl, ?_⟩)
    | (simp only [hn, hne, Bool.or_false, Bool.false_eq_true, if_false])
    | wp_step
    | dsimp only)
  all_goals exact hq
theorem getMethod_superV {so D x C : Addr} {l₀ l : List Value} {K : Frag} {name : Str} {pl : Sem Bool} {Q : Value × List Value → Shared → Prop}
    (hso : h.get? so = some { cls := .type "super", dict := none, data := .fields #[.ref D, .ref x, .ref C], slots := #[] }) (hno : W.Looks (model prog w) h (opaqueClassAbove (.ref C)) none)
    (hC : W.Looks (model prog w) h (mroOf (.ref C)) l₀) (hl : (l₀.dropWhile (· != .ref D)).drop 1 = l) (X : K.In h)
    (hf : alongIn K name l = some (some (.builtin "ValueError.__init__"))) (hxC : x ≠ C) (hn : (name == ("__class__" : Str)) = false) (hin : W.Looks (model prog w) h (isInstance (.ref x) (.type "ValueError")) true)
    (hq : Q (.ref h.objs.size, []) ⟨h.push (bwV x), g, d, t + 1, os⟩) :
    wpAny (model prog w) A (getMethod (.ref so) name pl) Q E ⟨h, g, d, t, os⟩ := by
  have hlk := F.ks_slot_super_ga.lookup
  have hcan := F.ks_canon_super_ga
  have hT : ∀ t', (⟨h, g, d, t', os⟩ : Shared).TypeIs (.ref so) "super" := fun _ => ⟨_, hso, rfl⟩
  unfold getMethod
  refine wpAny_bind (wpAny_specialOf (hT _) hlk ?_)
  show wpAny _ _ (if (Manifest.canonical "super.__getattribute__" != "object.__getattribute__") = true then _ else _) _ _ _
  rw [if_pos hcan]
  unfold getAttr getAttrBy
  refine wpAny_bind (wpAny_bind (wpAny_mkText (wpAny_holding (wpAny_bind (wpAny_typeOf (hT _) (wpAny_bind (wpAny_of_eq hlk ?_)))))))
  show wpAny _ _ (getAttrByItsOwn (.ref so) (.str name t) (.type "super") (.builtin "super.__getattribute__") true false) _ _ _
  unfold getAttrByItsOwn hookBefore callGetattribute boundAndCalled
  refine wpAny_bind (wpAny_of_eq (show (if onTheHeap (.type "super") then typeLookup (.type "super") "__getattr__" else pure none) = pure none from rfl) ?_)
  refine wpAny_bind (wpAny_attempt (wpAny_holding ?_))
  show wpAny _ _ (bindSpecial (.builtin "super.__getattribute__") (.ref so) >>= _) _ _ _
  refine wpAny_bind (wpAny_of_eq (F.ks_slot_super_ga.bind _) ?_)
  refine wpAny_mono (Q := fun v s' => v = .ref h.objs.size ∧ s' = ⟨h.push (bwV x), g, d, t + 1, os⟩) (E := fun _ _ => False)
    (wpAny_call_entry F.ks_slot_super_ga (hT _) F.ks_entry_super_ga (super_gaV hso hno hC hl X hf hxC hn hin ⟨_, rfl, rfl, rfl⟩) (F.ks_gaArgs_super _ _)) (fun v s' hv => ?_) fun _ _ z => z.elim
  obtain ⟨rfl, rfl⟩ := hv
  exact wpAny_pure (wpAny_pure hq)
end
section
variable {prog : Program} {w : World} {M : Model} {A : Around} {E : Value → Shared → Prop} {s : Shared}
theorem callWith_bwV {pos : Pos} {u x : Addr} {first : List Value} {args : List (Bool × Sem Value)} {Q : Value → Shared → Prop} (hplain : args.any (·.1) = false)
    (h : wpAny M A (evalArgs (.ref u) true args []) (fun a s₁ => s₁.heap.get? u = some (bwV x) ∧ wpAny M A (call (.ref u) (first ++ a.pos) a.kw) Q E s₁) E s) : wpAny M A (callWith pos (.ref u) first args []) Q E s := by
  unfold callWith
  refine wpAny_bind (wpAny_holding (wpAny_mono h (fun a s₁ h₁ => wpAny_bind (wpAny_standAt ?_)) fun _ _ x => x))
  obtain ⟨ho, hcall⟩ := h₁
  simp only [hplain, List.any_nil, Bool.or_false]
  refine wpAny_bind (m := keeperOf (.ref u)) ?_
  unfold keeperOf
  refine wpAny_bind (wpAny_load ho ?_)
  simp only [bwV, show (Value.type "method-wrapper" != Value.type "method") = true by decide, show (Value.type "method-wrapper" == Value.type "builtin_function_or_method" || Value.type "method-wrapper" == Value.type "method-wrapper") = true by decide, if_true]
  refine wpAny_pure ?_
  exact wpAny_bind (wpAny_mono hcall (fun r s₂ hr => wpAny_bind (wpAny_holding (wpAny_point (wpAny_pure hr)))) fun _ _ x => x)
theorem callWith_boundV {pos : Pos} {u x : Addr} {first : List Value} {env : Env} {e : Expr} {rest : List Expr} {Q : Value → Shared → Prop}
    (h : wpAny M A (spliced (backTo pos (starEach (e :: rest) env))) (fun vs s₁ => s₁.heap.get? u = some (bwV x) ∧ wpAny M A (call (.ref u) (first ++ vs)) Q E s₁) E s)
    (he : starEach (e :: rest) env = (false, eval e env) :: starEach rest env := by rfl) (hplain : (backTo pos (starEach rest env)).any (·.1) = false := by rfl) :
    wpAny M A (callWith pos (.ref u) first (backTo pos (starEach (e :: rest) env)) []) Q E s := by
  rw [he] at h ⊢
  refine callWith_bwV (x := x) (by show (false || (backTo pos (starEach rest env)).any (·.1)) = false; rw [hplain]; rfl) ?_
  exact evalArgs_plain h
end
section
variable {prog : Program} {w : World} {A : Around} {E : Value → Shared → Prop} {h : Heap} {g : Array GenState} {d : Drawn} {t : Nat} {os : OsState}
variable {nm q : Str} {C N : Addr} {bs bm : List Value} {hdct : Bool} {sn : List Str} {sub : List Value} {ab : Bool} {col : Option Bool} {dd : Option Addr} {k0 k1 k2 k3 k5 : Option Value}
theorem call_bwV {u e t0 : Addr} {rest : List Value} {Q : Value → Shared → Prop}
    (hC : h.get? C = some (excClassObj nm q C N bs bm hdct sn sub ab col dd k0 k1 k2 k3 k5 "ValueError.__new__")) (he : h.get? e = some (HandSPX.excO C t0)) (hu : h.get? u = some (bwV e)) (hrest : rest.length ≤ sizeLine)
    (hq : ∀ h' t1, (∀ b o, b ≠ e → h.get? b = some o → h'.get? b = some o) → h'.get? e = some (HandSPX.excO C t1) → Q .none ⟨h', g, d, t, os⟩) :
    wpAny (model prog w) A (call (.ref u) rest) Q E ⟨h, g, d, t, os⟩ := by
  refine wpAny_call (codeAny_of_tree ?_)
  show wpAny _ A.in1 (callAny (.ref u) ⟨rest, []⟩) _ _ _
  simp only [callAny]
  refine wpAny_bind (wpAny_load hu ?_)
  simp only [bwV, show (Value.type "method-wrapper" == Value.type "method" || Value.type "method-wrapper" == Value.type "builtin_function_or_method" || Value.type "method-wrapper" == Value.type "method-wrapper") = true by decide, if_true]
  refine W.KFB.if_so (by decide) ?_
  refine wpAny_bind (ESX.check_bound F.excBase_ValueError hC he rfl ?_)
  refine wpAny_bind (wpAny_pure (wpAny_pure ?_))
  refine ⟨Code.quiet_builtin _ (by decide +kernel), codeAny_builtin F.excBase_ValueError.initEntry ?_⟩
  rw [Around.under_plainId F.excBase_ValueError.init.plain _]
  wp_walk
  refine hq _ h.objs.size (fun b o hb ho => ?_) ?_
  · rw [Heap.get?_update_other _ _ (Ne.symm hb)]
    exact Heap.get?_push_of_some _ ho
  · rw [Heap.get?_update_self _ (Heap.get?_push_of_some _ he) rfl]
    rfl
end
end TieX
end PySem
/-! PmExc1: the making of such an error. -/
namespace PySem
namespace TieX
open PySem.W PySem.Calls PyProof.Rows PySem.HandSPX
/-! ### the text of __init__ -/
def iA (p1 p2 p3 : Pos) : Arguments := { posonlyargs := [], args := [{ arg := "self", annotation := none, pos := p1 }, { arg := "value", annotation := none, pos := p2 }], vararg := none, kwonlyargs := [], kw_defaults := [], kwarg := none, defaults := [.Constant .none 0 p3] }
def iB (q : Nat → Pos) : List Stmt := [.Expr (.Call (.Attribute (.Call (.Name "super" (q 0)) [] [] (q 1)) "__init__" (q 2)) [.Name "value" (q 3)] [] (q 4)) (q 5), .Assign [.Attribute (.Name "self" (q 6)) "value" (q 7)] (.Name "value" (q 8)) (q 9)]
def iS : Scope := { kind := .function, names := [(PySem.Str.ofString "self", .local), (PySem.Str.ofString "value", .local), (PySem.Str.ofString "__class__", .free), (PySem.Str.ofString "super", .globalImplicit)], isGenerator := false, isCoroutine := false, more := [] }
def IEv (q : Nat → Pos) : Prop := ∀ env : Env, ∃ pl : Sem Bool, eval (.Call (.Attribute (.Call (.Name "super" (q 0)) [] [] (q 1)) "__init__" (q 2)) [.Name "value" (q 3)] [] (q 4)) env = (do
  let ov ← attributeBase (.Call (.Name "super" (q 0)) [] [] (q 1)) "__init__" env (eval (.Call (.Name "super" (q 0)) [] [] (q 1)) env)
  standAt (q 2).atName
  let (f, first) ← holding [ov] (getMethod ov "__init__" pl)
  callWith (q 4) f first (backTo (q 4) (starEach [.Name "value" (q 3)] env)) [])
structure TieTxt (P : Program) (K : Frag) (C fI : Addr) (qual : Str) : Prop where
  cls : ∃ nm q N bs bm sn sub ab col dd k0 k1 k2 k3 k5, K.lookup C = some (excClassObj nm q C N bs bm true sn sub ab col dd k0 k1 k2 k3 k5 "ValueError.__new__") ∧ refsVE bm = true ∧ alongIn K "__init__" bm = some (some (.builtin "ValueError.__init__"))
  sa : findIn K (.ref C) "__setattr__" = some (some (.builtin "object.__setattr__"))
  noN : findIn K (.ref C) "value" = some none
  iC : findIn K (.ref C) "__init__" = some (some (.ref fI))
  tC : typeIn K (.ref fI) = some (.type "function")
  kC : keepIn K (.ref C) = true
  op : nsIn K cStatics "thirdparty.any" = some none
  sup : nsIn K mainGlobals "super" = some none
  tops : (P.main.scope.names.lookup ("super" : Str)).isSome = false
  fn : ∃ (oc : Value) (od : Option Addr) (kV doc pm : Value) (an : Option Addr) (ct : Value) (osl : Array (Option Value)) (cc cda T : Addr) (p1 p2 p3 : Pos) (q : Nat → Pos),
    K.lookup fI = some ⟨oc, od, .func (ksFn "__init__" qual (iA p1 p2 p3) (iB q) iS (.ref T) kV doc pm an (.ref cda) ct cc), osl⟩ ∧ codeIn K (.ref cda) qual = true ∧
    (∃ ccl cdd vs ccs file tf, K.lookup cda = some ⟨ccl, cdd, .fields vs, ccs⟩ ∧ vs[2]? = some (.str file tf) ∧ ((P.main.file : Str) == file) = true) ∧
    (∃ cl cld csl, K.lookup cc = some ⟨cl, cld, .cell (some (.ref C)), csl⟩) ∧ (∃ tc td n tsl, K.lookup T = some ⟨tc, td, .seq #[.none] n, tsl⟩) ∧ IEv q
theorem iS_cell : ∀ x ∈ iS.names, x.2 ≠ .cell := by decide +kernel
theorem boot_super : bootBuiltins "super" = some (.type "super") := by first | rfl | decide +kernel | kernel_rfl
theorem one_size (v : Value) : [v].length ≤ sizeLine := by
  rw [sizeLine_eq]
  exact (by decide : 1 ≤ 16777216)
theorem kept_but {K : Frag} {h h' : Heap} {x : Addr} (X : K.In h) (hx : K.lookup x = none) (k : ∀ b o, b ≠ x → h.get? b = some o → h'.get? b = some o) : K.In h' := fun a o e =>
  k a o (fun z => by rw [z, hx] at e; cases e) (X a o e)
structure InitEnd (h h' : Heap) (x C dx : Addr) (v : Value) : Prop where
  keep : ∀ b o, b ≠ x → h.get? b = some o → h'.get? b = some o
  obj : ∃ t1 : Addr, h'.get? x = some { cls := .ref C, dict := some dx, data := .fields #[.ref t1, .none, .none, .none, .bool false, .none] }
  dbig : h.objs.size ≤ dx
  dne : dx ≠ x
  ns : h'.Ns1 dx (fun y => if y = "value" then some v else none)
structure Made (h h' : Heap) (e C d : Addr) (v : Value) : Prop where
  keep : ∀ b o, h.get? b = some o → h'.get? b = some o
  new : h.objs.size ≤ e
  obj : ∃ oe vs, h'.get? e = some oe ∧ oe.cls = .ref C ∧ oe.dict = some d ∧ oe.data = .fields vs ∧ vs[1]? = some .none
  dbig : h.objs.size ≤ d
  dne : d ≠ e
  ns : h'.Ns1 d (fun y => if y = "value" then some v else none)
section
variable {prog : Program} {w : World} {A : Around} {E : Value → Shared → Prop} {R : Result → Shared → Prop} {s : Shared} {K : Frag} {mg mb : Str → Option Value} {C fI : Addr} {qual : Str}
theorem ldN {M : Model} {s : Shared} {name : Str} {L a : Addr} {cd : Value} {cc : Addr} {m : Str → Option Value} {x : Str} {pos : Pos} {v : Value} {Q : Value → Shared → Prop} (hn : s.heap.Ns L m) (hv : m x = some v) (h : Q v s)
    (hl : iS.names.lookup x = some .local := by rfl) (hd : (x == ("__debug__" : Str)) = false := by decide) :
    wpAny M A (eval (.Name x pos) (ksEnv name iS L a cd cc)) Q E s := wpAny_Name (wpAny_loadName_local rfl hl hn hv h) hd
theorem tie_init (T : TieTxt prog K C fI qual) {x t0 : Addr} {v : Value} {args : Args} (X : K.In s.heap) (hG : s.heap.Ns mainGlobals mg) (hsup : mg "super" = none) (hB : s.heap.Ns builtinsNs mb) (hbb : mb "super" = bootBuiltins "super") (hlim : s.heap.NoLimit)
    (hx : s.heap.get? x = some (excO C t0)) (hnx : K.lookup x = none) (hroom : A.depth < recursionLimit)
    (hbind : ∀ oc od kV doc pm an ct osl cc cda T p1 p2 p3 q, K.lookup fI = some ⟨oc, od, .func (ksFn "__init__" qual (iA p1 p2 p3) (iB q) iS (.ref T) kV doc pm an (.ref cda) ct cc), osl⟩ → (∃ tc td n tsl, K.lookup T = some ⟨tc, td, .seq #[.none] n, tsl⟩) →
      BindsTo s (ksFn "__init__" qual (iA p1 p2 p3) (iB q) iS (.ref T) kV doc pm an (.ref cda) ct cc) args [("self", .ref x), ("value", v)])
    (hq : ∀ h' tk dx, InitEnd s.heap h' x C dx v → R (.ok (.ret .none)) { s with heap := h', toks := tk }) :
    codeAny (model prog w) A (.call (.ref fI) args) R s := by
  obtain ⟨oc, od, kV, doc, pm, an, ct, osl, cc, cda, Tp, p1, p2, p3, q, ho, hcd, ⟨ccl, cdd, vs, ccs, file, tf, hcode, hvs, hfile⟩, ⟨cl, cld, csl, hcell⟩, hT, hev⟩ := T.fn
  obtain ⟨nm, qn, N, bs, bm, sn, sub, ab, col, dd, k0, k1, k2, k3, k5, hC, hbm, hal⟩ := T.cls
  have hb := hbind _ _ _ _ _ _ _ _ _ _ _ _ _ _ _ ho hT
  refine ks_codeAny_call_defAt (fd := ksFn "__init__" qual (iA p1 p2 p3) (iB q) iS (.ref Tp) kV doc pm an (.ref cda) ct cc) (body := iB q) (binds := [("self", .ref x), ("value", v)]) hroom (X _ _ ho) rfl hlim (codeRec_of X hcd) rfl hb iS_cell (fun y hy => ?_) (fun h₀ hns hk => ?_)
  · rcases List.mem_cons.mp hy with rfl | hy
    · rfl
    · rcases List.mem_cons.mp hy with rfl | hy
      · rfl
      · cases hy
  · have X₀ : K.In h₀ := X.keeps hk
    have hx₀ := hk _ _ hx
    obtain ⟨cd, hcl, hcm, hch⟩ : ∃ cd, clsIn K C = some cd ∧ cd.mro = .ref C :: bm ∧ cd.hasDict = true := by
      unfold clsIn
      rw [hC]
      exact ⟨_, rfl, rfl, rfl⟩
    have hself : (fun y => ([("self", Value.ref x), ("value", v)] : List (Str × Value)).reverse.lookup y) "self" = some (.ref x) := by rfl
    have hval : (fun y => ([("self", Value.ref x), ("value", v)] : List (Str × Value)).reverse.lookup y) "value" = some v := by rfl
    show _root_.PySem.wpAt _ _ _ (execs (iB q) (ksEnv qual iS s.heap.objs.size fI (.ref cda) cc)) _ _ _
    obtain ⟨pl, he⟩ := hev (ksEnv qual iS s.heap.objs.size fI (.ref cda) cc)
    refine ks_wpAt_execs_cons (ks_wpAt_Expr_any (ks_wpAt_MethodCall (pl := pl) ?_ he))
    refine ks_wpAt_super_base (attr := "__init__") (env := ksEnv qual iS s.heap.objs.size fI (.ref cda) cc) rfl rfl (by decide) rfl (X₀ _ _ ho) rfl (ar := { arg := "self", annotation := none, pos := p1 }) rfl rfl (X₀ _ _ hcode) rfl hvs hfile T.tops ?_
    refine ks_loadName_global rfl rfl (loadGlobal_builtin (env := ksEnv qual iS s.heap.objs.size fI (.ref cda) cc) (hG.keeps hk) hsup (hB.keeps hk) (hbb.trans boot_super) ⟨rfl, ?_⟩)
    refine wpAny_loadName_free (env := ksEnv qual iS s.heap.objs.size fI (.ref cda) cc) rfl rfl (c := cc) rfl ⟨_, X₀ _ _ hcell, rfl⟩ ?_
    refine wpAny_loadName_local (env := ksEnv qual iS s.heap.objs.size fI (.ref cda) cc) rfl rfl hns hself ?_
    have hC₀ := X₀ _ _ hC
    refine ks_wpAny_isType_cls hC₀ rfl ⟨rfl, ?_⟩
    have hmro : ∀ b : Value, (Value.ref C :: bm).contains b = true → mroIn K C b = some true := fun b hbc => by
      unfold mroIn
      rw [hcl, Option.bind_some, hcm, if_neg (show ¬ (List.isEmpty (Value.ref C :: bm) = true) from Bool.false_ne_true), hbc]
    refine ks_wpAny_call_super hC₀ rfl hx₀ rfl (fun c e => nomatch e) (looks_mroIn X₀ (hmro (.ref C) (by rw [List.contains_cons]; simp))) (fun h1 e1 k1 => ?_)
    have X₁ : K.In h1 := X₀.keeps k1
    have hx₁ := k1 _ _ hx₀
    have hxC : x ≠ C := fun z => by
      rw [z, hC] at hnx
      cases hnx
    have hve : (Value.ref C :: bm).contains (.type "ValueError") = true := (refsVE_contains "ValueError" _ (show refsVE (.ref C :: bm) = true from hbm)).trans (by decide +kernel)
    have I₁ : PySem.W.InstAt h1 x (excO C t0) C none := ⟨hx₁, rfl, rfl, trivial⟩
    refine getMethod_superV e1 (looks_opaque X₁ T.op) (l₀ := .ref C :: bm) (l := bm) (hcm ▸ (looks_clsIn X₁ hcl).andThen .now) (by simp [List.dropWhile_cons]) X₁ hal hxC rfl (I₁.type.andThen (looks_mroIn X₁ (hmro _ hve))) ?_
    have X₂ : K.In (h1.push (bwV x)) := X₁.keeps fun b o e => Heap.get?_push_of_some _ e
    refine callWith_boundV (x := x) (first := []) ?_
    have k2 : ∀ b o, h₀.get? b = some o → (h1.push (bwV x)).get? b = some o := fun b o e => Heap.get?_push_of_some _ (k1 _ _ e)
    have hns2 : (h1.push (bwV x)).Ns s.heap.objs.size (fun y => ([("self", Value.ref x), ("value", v)] : List (Str × Value)).reverse.lookup y) := hns.keeps k2
    refine Calls.spliced_cons (x := eval (.Name "value" (q 3)) (ksEnv qual iS s.heap.objs.size fI (.ref cda) cc)) (ldN hns2 hval ?_)
    refine Calls.spliced_nil ?_
    refine ⟨Heap.get?_push_at rfl rfl, ?_⟩
    refine call_bwV (X₂ _ _ hC) (k2 _ _ hx₀) (Heap.get?_push_at rfl rfl) (one_size v) (fun h3 t3 k3 e3 => ?_)
    have hnx2 : ∀ b o, K.lookup b = some o → b ≠ x := fun b o e z => by
      rw [z, hnx] at e
      cases e
    have X₃ : K.In h3 := kept_but X₂ hnx k3
    have hxL : s.heap.objs.size ≠ x := Nat.ne_of_gt (Heap.lt_size hx)
    have hns3 : h3.Ns s.heap.objs.size (fun y => ([("self", Value.ref x), ("value", v)] : List (Str × Value)).reverse.lookup y) := by
      obtain ⟨o, es, ep, ho', r⟩ := hns2
      exact ⟨o, es, ep, k3 _ _ hxL ho', r⟩
    refine ks_wpAt_execs_cons (wpAt_of_wpAny ?_)
    refine plainObj_wpAny_Assign_Attribute ?_
    refine ldN hns3 hval (ldN hns3 hself ?_)
    refine set_plain X₃ (ox := excO C t3) (od := none) ⟨e3, rfl, rfl, trivial⟩ T.sa ?_
    refine exc_osa X₃ e3 hcl (hcm ▸ (show refsVE (.ref C :: bm) = true from hbm)) hch T.noN (fun h₄ tk₄ dx k₄ dn dne hx₄ hn₄ => ?_)
    refine wpAt_of_wpAny (wpAny_execs_nil (hq h₄ tk₄ dx ⟨fun b o hb e => k₄ b o hb (k3 b o hb (k2 b o (hk b o e))), ⟨t3, hx₄⟩, ?_, dne, hn₄⟩))
    have z : s.heap.objs.size < h3.objs.size := hns3.lt
    exact Nat.le_of_lt (Nat.lt_of_lt_of_le z dn)
theorem tie_made (T : TieTxt prog K C fI qual) {v : Value} (X : K.In s.heap) (hG : s.heap.Ns mainGlobals mg) (hsup : mg "super" = none) (hB : s.heap.Ns builtinsNs mb) (hbb : mb "super" = bootBuiltins "super") (hlim : s.heap.NoLimit) (hroom : A.depth + 1 < recursionLimit)
    (hq : ∀ h' tk e d, Made s.heap h' e C d v → R (.ok (.ret (.ref e))) { s with heap := h', toks := tk }) :
    codeAny (model prog w) A (.call (.ref C) ⟨[v], []⟩) R s := by
  obtain ⟨nm, q, N, bs, bm, sn, sub, ab, col, dd, k0, k1, k2, k3, k5, hC, hbm, hal⟩ := T.cls
  obtain ⟨hp, g, dr, tk, os⟩ := s
  have k : ∀ b o, hp.get? b = some o → ((hp.push (kdv_tup [v])).push (excO C hp.objs.size)).get? b = some o := fun b o e => Heap.get?_push_of_some _ (Heap.get?_push_of_some _ e)
  have hget : ((hp.push (kdv_tup [v])).push (excO C hp.objs.size)).get? (hp.objs.size + 1) = some (excO C hp.objs.size) := by heap_get
  have hnx : K.lookup (hp.objs.size + 1) = none := by
    cases e : K.lookup (hp.objs.size + 1) with
    | none => rfl
    | some o =>
      have z : hp.get? (hp.objs.size + 1) = some o := X _ _ e
      exact absurd (Nat.lt_of_succ_lt (Heap.lt_size z)) (Nat.lt_irrefl _)
  refine call_own F.excBase_ValueError (fun X => refsVE_contains X bm hbm) (X _ _ hC) (looks_findIn X T.iC) (fun self => bind_fn X self T.tC) (one_size v) ?_
  refine tie_init (v := v) (s := ⟨(hp.push (kdv_tup [v])).push (excO C hp.objs.size), g, dr, tk, os⟩) T (X.keeps k) (hG.keeps k) hsup (hB.keeps k) hbb (hlim.keeps k) hget hnx ?_ (fun _ _ _ _ _ _ _ _ _ _ _ _ _ _ _ _ hT => by
    obtain ⟨tc, td, n, tsl, hT⟩ := hT
    exact BindsTo.of_defaults rfl (X.keeps k _ _ hT) rfl rfl rfl) fun h' tk' dx ⟨k', hx, dn, dne, hns⟩ => ?_
  · show A.depth + 1 < recursionLimit
    exact hroom
  · have old : ∀ b o, hp.get? b = some o → h'.get? b = some o := fun b o e => k' b o (Nat.ne_of_lt (Nat.lt_succ_of_lt (Heap.lt_size e))) (k b o e)
    have z : hp.objs.size + 1 + 1 ≤ dx := by
      first
        | (simpa only [Heap.size_push] using dn)
        | exact dn
        | (have q := dn; rw [Heap.size_push, Heap.size_push] at q; exact q)
    obtain ⟨t1, hx⟩ := hx
    exact ⟨rfl, hq h' tk' (hp.objs.size + 1) dx ⟨old, Nat.le_succ _, ⟨_, _, hx, rfl, rfl, rfl, rfl⟩, Nat.le_trans (Nat.le_trans (Nat.le_succ _) (Nat.le_succ _)) z, dne, hns⟩⟩
end
end TieX
end PySem
/-! PmExc2: the making of such an error with value=.., and with nothing. -/
namespace PySem
namespace TieX
open PySem.W PySem.Calls PyProof.Rows PySem.HandSPX
section
variable {M : Model} {prog : Program} {w : World} {A : Around} {E : Value → Shared → Prop} {R : Result → Shared → Prop} {h : Heap} {g : Array GenState} {d : Drawn} {t : Nat} {os : OsState}
variable {nm q : Str} {C N : Addr} {bs bm bmB : List Value} {hd : Bool} {sn : List Str} {sub : List Value} {ab : Bool} {col : Option Bool} {dd : Option Addr} {k0 k1 k2 k3 k5 : Option Value} {kw : List (Str × Value)}
abbrev oC (nm q : Str) (C N : Addr) (bs bm : List Value) (hd : Bool) (sn : List Str) (sub : List Value) (ab : Bool) (col : Option Bool) (dd : Option Addr) (k0 k1 k2 k3 k5 : Option Value) : Obj := excClassObj nm q C N bs bm hd sn sub ab col dd k0 k1 k2 k3 k5 "ValueError.__new__"
theorem kw_check_call {rest : List Value} {Q : Unit → Shared → Prop} (hC : h.get? C = some (oC nm q C N bs bm hd sn sub ab col dd k0 k1 k2 k3 k5)) (z : Q () ⟨h, g, d, t, os⟩) : wpAny M A (checkBuiltinCall "type.__call__" ⟨.ref C :: rest, kw⟩) Q E ⟨h, g, d, t, os⟩ := by
  have f3 := tc_sub; have hT : (⟨h, g, d, t, os⟩ : Shared).TypeIs (.ref C) "type" := ⟨_, hC, rfl⟩
  simp only [checkBuiltinCall, tc_kind, tc_split]
  repeat (any_goals (first | with_reducible refine wpAny_loadPart_at hC ?_ | assumption | with_reducible refine wpAny_onRaise ?_ | with_reducible refine wpAny_map ?_ | wp_step))
theorem kw_check_new (hT : ∀ X : String, bm.contains (.type X) = veTail.contains (.type X)) {rest : List Value} {Q : Unit → Shared → Prop} (hC : h.get? C = some (oC nm q C N bs bm hd sn sub ab col dd k0 k1 k2 k3 k5)) (z : Q () ⟨h, g, d, t, os⟩) :
    wpAny M A (checkBuiltinCall "ValueError.__new__" ⟨.ref C :: rest, kw⟩) Q E ⟨h, g, d, t, os⟩ := by
  have F := F.excBase_ValueError; have hc : (Value.ref C :: bm).contains (.type "ValueError") = true := by rw [List.contains_cons, hT, show veTail.contains (.type "ValueError") = true by decide +kernel, Bool.or_true]
  have hs := F.noStar
  simp only [checkBuiltinCall, F.newKind, F.newSplit, F.newRow]
  repeat (first | refine wpAny_loadPart_at hC ?_ | (refine wpAny_isSubtype_exc hC ?_; rw [hc]) | refine wpAny_staticBase_exc hC ?_ | refine wpAny_madeBy_exc hC ?_ | simp only [bne_self_eq_false, Bool.false_eq_true, if_false] | wp_step)
  all_goals exact z
theorem kw_new (hT : ∀ X : String, bm.contains (.type X) = veTail.contains (.type X)) {rest : List Value} (hC : h.get? C = some (oC nm q C N bs bm hd sn sub ab col dd k0 k1 k2 k3 k5)) (hrest : rest.length ≤ sizeLine)
    (z : R (.ok (.ret (.ref (h.objs.size + 1)))) ⟨(h.push (kdv_tup rest)).push (excO C h.objs.size), g, d, t, os⟩) :
    codeAny (model prog w) A (.builtin "ValueError.__new__" ⟨.ref C :: rest, kw⟩) R ⟨h, g, d, t, os⟩ := by
  have F := F.excBase_ValueError
  have he := F.ends
  have in0 : ∀ X : String, (Value.ref C :: bm).contains (.type X) = veTail.contains (.type X) := fun X => by
    rw [List.contains_cons, hT, show (Value.type X == Value.ref C) = false by simp, Bool.false_or]
  have c1 := (in0 "ValueError").trans (show veTail.contains (.type "ValueError") = true by decide +kernel)
  have c2 := (in0 "AttributeError").trans (show veTail.contains (.type "AttributeError") = false by decide +kernel)
  have c3 := (in0 "NameError").trans (show veTail.contains (.type "NameError") = false by decide +kernel)
  refine codeAny_builtinAt F.entry ?_
  unfold Builtin.«BaseException.__new__»
  refine wpAt_bind (?_ : wpAt _ _ _ (stack >>= _) _ _ _)
  refine wpAt_bind (wpAt_stack fun p below => wpAt_of_wpAny ?_)
  wp_walk
  refine wpAt_of_wpAny ?_; rw [F.owner]
  repeat (first | with_reducible refine wpAny_madeHere_exc F.canon hC ?_ | with_reducible refine wpAny_loadPart_at hC ?_ | (with_reducible refine wpAny_isSubtype_exc hC ?_; first | rw [c1] | rw [c2] | rw [c3]) | wp_step)
  show R _ _; rw [Heap.size_push]; exact z
theorem kw_type_call (hT : ∀ X : String, bm.contains (.type X) = veTail.contains (.type X)) {rest : List Value} {fI : Addr} {Q : Fin → Shared → Prop} (hC : h.get? C = some (oC nm q C N bs bm hd sn sub ab col dd k0 k1 k2 k3 k5)) (hrest : rest.length ≤ sizeLine)
    (hi : W.Looks (model prog w) h (typeLookup (.ref C) "__init__") (some (.ref fI))) (hb : ∀ self, W.Looks (model prog w) h (bindSpecial (.ref fI) self) (.ref fI, [self]))
    (z : codeAny (model prog w) A (.call (.ref fI) ⟨.ref (h.objs.size + 1) :: rest, kw⟩) (fun r s' => match r with | .ok (.ret v) => v = .none ∧ Q (.done (.ret (.ref (h.objs.size + 1)))) s' | .ok _ => False | .error e => E e s') ⟨(h.push (kdv_tup rest)).push (excO C h.objs.size), g, d, t, os⟩) :
    wpAny (model prog w) A (Builtin.«type.__call__» ⟨.ref C :: rest, kw⟩) Q E ⟨h, g, d, t, os⟩ := by
  have F := F.excBase_ValueError
  repeat (first | with_reducible refine wpAny_madeBy_exc hC ?_ | with_reducible refine wpAny_loadPart_at hC ?_ | wp_step)
  refine codeAny_call_builtin_code (Code.quiet_builtin _ F.quiet) (kw_check_new hT hC (kw_new hT hC hrest ?_))
  show wpAny _ _ _ _ _ _
  have up : ∀ b o, h.get? b = some o → ((h.push (kdv_tup rest)).push (excO C h.objs.size)).get? b = some o := fun b o e => Heap.get?_push_of_some _ (Heap.get?_push_of_some _ e)
  have g1 : ((h.push (kdv_tup rest)).push (excO C h.objs.size)).get? (h.objs.size + 1) = some (excO C h.objs.size) := by heap_get
  have g2 := up _ _ hC
  have g3 : (Value.ref C :: bm).contains (.ref C) = true := by simp
  unfold isInstance
  repeat (first | with_reducible refine wpAny_loadPart_at g1 ?_ | (with_reducible refine wpAny_isSubtype_exc g2 ?_; rw [g3]) | wp_step)
  refine (hi.keeps up).at (?_ : wpAny _ _ _ _ _ _)
  refine wpAny_holding (wpAny_bind (((hb (.ref (h.objs.size + 1))).keeps up).at ?_))
  refine wpAny_bind (wpAny_call (codeAny_mono z fun r s' y => ?_))
  rcases r with e | (v | _ | _ | _) <;> first | exact y | exact y.elim | skip
  obtain ⟨rfl, y⟩ := y
  first | exact wpAny_pure (wpAny_pure y) | (wp_walk; exact y)
theorem kw_call (hT : ∀ X : String, bm.contains (.type X) = veTail.contains (.type X)) {rest : List Value} {fI : Addr} (hC : h.get? C = some (oC nm q C N bs bm hd sn sub ab col dd k0 k1 k2 k3 k5)) (hrest : rest.length ≤ sizeLine)
    (hi : W.Looks (model prog w) h (typeLookup (.ref C) "__init__") (some (.ref fI))) (hb : ∀ self, W.Looks (model prog w) h (bindSpecial (.ref fI) self) (.ref fI, [self]))
    (z : codeAny (model prog w) (A.under (.builtin "type.__call__" ⟨.ref C :: rest, kw⟩)) (.call (.ref fI) ⟨.ref (h.objs.size + 1) :: rest, kw⟩) (InitBack (h.objs.size + 1) R) ⟨(h.push (kdv_tup rest)).push (excO C h.objs.size), g, d, t, os⟩) :
    codeAny (model prog w) A (.call (.ref C) ⟨rest, kw⟩) R ⟨h, g, d, t, os⟩ := by
  have f1 := tc_lookup; have f2 := tc_bind (.ref C)
  have hTy : (⟨h, g, d, t, os⟩ : Shared).TypeIs (.ref C) "type" := ⟨_, hC, rfl⟩
  refine codeAny_of_tree (?_ : wpAny _ _ (callAny (.ref C) _) _ _ _)
  repeat (any_goals (first | with_reducible refine wpAny_loadPart_at hC ?_ | assumption | wp_step))
  refine ⟨rfl, codeAny_call_builtin_at (Code.quiet_builtin _ (by decide +kernel)) entry_typeCall (kw_check_call hC (kw_type_call hT hC hrest hi hb ?_))⟩
  refine codeAny_mono z fun r s' y => ?_
  rcases r with e | (v | _ | _ | _) <;> exact y
theorem tie_made3 {s : Shared} {K : Frag} {mg mb : Str → Option Value} {fI : Addr} {qual : Str} (T : TieTxt prog K C fI qual) {v : Value} {rest : List Value} (hw : (rest = [v] ∧ kw = []) ∨ (rest = [] ∧ kw = [(("value" : Str), v)]) ∨ (rest = [] ∧ kw = [] ∧ v = .none))
    (X : K.In s.heap) (hG : s.heap.Ns mainGlobals mg) (hsup : mg "super" = none) (hB : s.heap.Ns builtinsNs mb) (hbb : mb "super" = bootBuiltins "super") (hlim : s.heap.NoLimit) (hroom : A.depth + 1 < recursionLimit)
    (hdep : (A.under (.builtin "type.__call__" ⟨.ref C :: rest, kw⟩)).depth = A.depth + 1) (hq : ∀ h' tk e d, Made s.heap h' e C d v → R (.ok (.ret (.ref e))) { s with heap := h', toks := tk }) :
    codeAny (model prog w) A (.call (.ref C) ⟨rest, kw⟩) R s := by
  obtain ⟨nm, q, N, bs, bm, sn, sub, ab, col, dd, k0, k1, k2, k3, k5, hC, hbm, hal⟩ := T.cls
  obtain ⟨hp, g, dr, tk, os⟩ := s
  have up : ∀ b o, hp.get? b = some o → ((hp.push (kdv_tup rest)).push (excO C hp.objs.size)).get? b = some o := fun b o e => Heap.get?_push_of_some _ (Heap.get?_push_of_some _ e)
  have g1 : ((hp.push (kdv_tup rest)).push (excO C hp.objs.size)).get? (hp.objs.size + 1) = some (excO C hp.objs.size) := by heap_get
  have hnx : K.lookup (hp.objs.size + 1) = none := by
    cases e : K.lookup (hp.objs.size + 1) with
    | none => rfl
    | some o => exact absurd (Nat.lt_of_succ_lt (Heap.lt_size (X _ _ e : hp.get? (hp.objs.size + 1) = some o))) (Nat.lt_irrefl _)
  have hrest : rest.length ≤ sizeLine := by
    rcases hw with ⟨rfl, _⟩ | ⟨rfl, _⟩ | ⟨rfl, _⟩
    · exact one_size v
    · exact Nat.zero_le _
    · exact Nat.zero_le _
  refine kw_call (fun X => refsVE_contains X bm hbm) (X _ _ hC) hrest (looks_findIn X T.iC) (fun self => bind_fn X self T.tC) ?_
  refine tie_init (v := v) (s := ⟨(hp.push (kdv_tup rest)).push (excO C hp.objs.size), g, dr, tk, os⟩) T (X.keeps up) (hG.keeps up) hsup (hB.keeps up) hbb (hlim.keeps up) g1 hnx (by rw [hdep]; exact hroom) (fun _ _ _ _ _ _ _ _ _ _ _ _ _ _ _ _ hT => ?_) fun h' tk' dx ⟨k', hx, dn, dne, hns⟩ => ?_
  · obtain ⟨tc, td, n, tsl, hT⟩ := hT
    have hT' := X.keeps up _ _ hT
    rcases hw with ⟨rfl, rfl⟩ | ⟨rfl, rfl⟩ | ⟨rfl, rfl, rfl⟩
    · exact BindsTo.of_defaults rfl hT' rfl rfl rfl
    · exact BindsTo.of_defaults rfl hT' rfl rfl rfl
    · exact BindsTo.of_defaults rfl hT' rfl rfl rfl
  · have old : ∀ b o, hp.get? b = some o → h'.get? b = some o := fun b o e => k' b o (Nat.ne_of_lt (Nat.lt_succ_of_lt (Heap.lt_size e))) (up b o e)
    have y : hp.objs.size + 1 + 1 ≤ dx := by
      first | (simpa only [Heap.size_push] using dn) | exact dn
    obtain ⟨t1, hx⟩ := hx
    exact ⟨rfl, hq h' tk' (hp.objs.size + 1) dx ⟨old, Nat.le_succ _, ⟨_, _, hx, rfl, rfl, rfl, rfl⟩, Nat.le_trans (Nat.le_trans (Nat.le_succ _) (Nat.le_succ _)) y, dne, hns⟩⟩
end
end TieX
end PySem
/-! PmExc: errors as values: made, asked for their class, read; raised. -/
namespace PySem.TieX
open PySem.W PySem.Calls PyProof.Rows PySem.HandSPX
section
variable {prog : Program} {w : World} {A : Around} {E : Value → Shared → Prop} {s : Shared} {K : Frag} {x D : Addr} {ox : Obj} {od : Option Obj}
theorem class_of {Q : Option Value → Shared → Prop} (T : L2.ExcC K D) (X : K.In s.heap) (I : InstAt s.heap x ox D od) (h : Q (some (.ref D)) { s with toks := s.toks + 1 }) : wpAny (model prog w) A (getAttr? (.ref x) "__class__") Q E s := by
  obtain ⟨cd, hc, _⟩ := any_some T.hd
  have hf : findObj K D od "__class__" = some (.bind (.builtin "getset_descriptor.__get__") (.builtin "object.__class__")) := by
    unfold findObj; rw [hc, Option.bind_some, T.ha, Option.bind_some]
    simp [T.hn, T.ht]
  obtain ⟨hp, g, d, t, os⟩ := s
  have a0 := I.type (M := model prog w)
  have a1 := looks_findIn (M := model prog w) X T.hg
  have a2 := looks_findIn (M := model prog w) X T.hk
  have a3 := looks_find (M := model prog w) X I hf
  have sub : Looks (model prog w) hp (isInstance (.ref x) (.type "BaseException")) true := a0.andThen (looks_subIn X T.hs)
  have n2 : (Value.builtin "BaseException.__getattribute__" == Value.builtin "object.__getattribute__") = false := by decide +kernel
  have n1 : (onTheHeap (Value.ref D) && Value.builtin "BaseException.__getattribute__" == Value.builtin "object.__getattribute__") = false := by rw [n2]; rfl
  have n0 : (false && onTheHeap (Value.builtin "BaseException.__getattribute__")) = false := rfl
  unfold getAttr? getAttrBy? getAttrBy
  refine wpAny_bind (wpAny_mkText (wpAny_bind (wpAny_attempt (wpAny_holding (wpAny_bind (a0.at (wpAny_bind (a1.at ?_))))))))
  show wpAny _ _ (if (onTheHeap (Value.ref D) && Value.builtin "BaseException.__getattribute__" == Value.builtin "object.__getattribute__") = true then _ else _) _ _ _
  rw [n1, if_neg Bool.false_ne_true]
  unfold getAttrByItsOwn hookBefore
  refine wpAny_bind ?_; rw [if_pos (show onTheHeap (Value.ref D) = true from rfl)]
  refine a2.at (wpAny_bind (wpAny_attempt (wpAny_holding ?_)))
  unfold callGetattribute; rw [n0, if_neg Bool.false_ne_true]
  unfold boundAndCalled; rw [PySem.F.excAttr_ValueError.ga.bind (.ref x)]
  refine wpAny_bind (wpAny_pure (?_ : wpAny _ _ (call (.builtin "BaseException.__getattribute__") [.ref x, .str "__class__" t]) _ _ _))
  refine wpAny_call (codeAny_call_builtin PySem.F.excAttr_ValueError.ga.plain PySem.F.entry_bexc_ga ?_)
  refine @check_slot (model prog w) _ _ ⟨hp, g, d, t + 1, os⟩ "BaseException.__getattribute__" "BaseException" "__getattribute__" (.ref x) [.str "__class__" t] [] _ (by decide +kernel) (by decide +kernel) sub (PySem.F.args_bexc_ga (.ref x) (.str "__class__" t)) ?_
  unfold Builtin.«object.__getattribute__»
  refine wpAny_bind (wpAny_of_eq (a := ((Value.ref x : Value), [Value.str "__class__" t])) (by first | rfl | (simp only [slotArgs]; rfl)) ?_)
  refine wpAny_bind (wpAny_pure (wpAny_bind (a0.at (wpAny_bind (a3.at ?_)))))
  show wpAny _ _ (holding [Value.builtin "object.__class__"] (call (.builtin "getset_descriptor.__get__") [.builtin "object.__class__", .ref x, .ref D]) >>= ret) _ _ _
  refine wpAny_bind (wpAny_holding (wpAny_call (class_get (s := ⟨hp, g, d, t + 1, os⟩) (ox := ox) (od := od) X I T.hm (wpAny_pure ?_))))
  show wpAny _ _ (handedOut (.ref D)) _ _ _
  rw [handedOut_of (v := .ref D) rfl]
  first | exact wpAny_pure (wpAny_pure h) | exact wpAny_pure h | exact wpAny_pure (wpAny_bind (wpAny_pure (wpAny_pure h)))
theorem kit_exc (T : L2.ExcC K D) : KitX K (.ref x) (.ref D) (fun h => ∃ ox od, InstAt h x ox D od) := by
  obtain ⟨cd, hc, _⟩ := any_some T.hd
  obtain ⟨c', d', sl', ho⟩ : ∃ c' d' sl', K.lookup D = some ⟨c', d', .cls cd, sl'⟩ := by
    unfold clsIn at hc
    split at hc
    · cases hc
      exact ⟨_, _, _, by assumption⟩
    · cases hc
  exact {
    ty := fun _ _ _ ⟨_, _, I⟩ => I.type
    it := fun _ _ X _ A' Q' E' s' k q => by
      unfold isType loadHead
      exact wpAny_bind (wpAny_loadPart (k _ _ (X _ _ ho)) (wpAny_pure q))
    ne := fun h tp dd its n sl X htp => Bool.eq_false_iff.mpr fun q => by
      have e : D = tp := Value.ref.inj (beq_iff_eq.mp q)
      subst e
      have z := (X _ _ ho).symm.trans htp
      cases z
    ca := fun X ⟨_, _, I⟩ k => class_of T X I k }
end
end PySem.TieX
namespace Pm
open PySem PySem.Spec
open L2 (V Hp HO Cx Inv PE PT PA PS PSs PW TE TT TA TS St VK XK WX Ends RelV Vals upd upd_same upd_ne Takes R2 OpR CallR MtR tOp tVar Vis Gl Room Binds)
section
variable {X : Cx} {G : Gx} {Z : WX} {pos : Pos}
/-! ### made -/
def oMk (c : Nat) : Op1 := fun v h => some (.ref (h.n + 1), (h.new (.xd v)).new (.exc c h.n))
theorem excO_ok {P : Program} {w : World} {H : Hp} {h : Heap} {a : Addr} {cls : Value} {d : Option Addr} {oe : Obj} {vs : Array Value} (e : h.get? a = some oe) (z : L2.Zc cls d oe) (hd : oe.data = .fields vs) : L2.ObjOk P w H h a (ExcO cls d a) :=
  ⟨⟨oe, vs, e, z, hd⟩, ⟨oe, e⟩, fun h1 h2 q k => by
    obtain ⟨o1, v1, e1, z1, d1⟩ := q
    exact ⟨o1, v1, k _ e1, z1, d1⟩⟩
theorem relO_value {v : V} {u : Value} (r : RelV v u) (f : Str) : L2.RelO (List.lookup f [(("value" : Str), v)]) (if f = "value" then some u else none) := by
  by_cases e : f = "value"
  · subst e
    rw [if_pos rfl, show List.lookup ("value" : Str) [(("value" : Str), v)] = some v by simp [List.lookup]]
    exact r
  · rw [if_neg e, show List.lookup f [(("value" : Str), v)] = none by simp [List.lookup, show (f == ("value" : Str)) = false by simpa using e]]
    trivial
open PySem.TieX in
theorem made_inv {pins : List (Addr × Obj)} {σ : St} {H : Hp} {hp h' : Heap} {g : Array GenState} {dr : Drawn} {t tk : Nat} {os : OsState} {e C d : Addr} {u : Value} {v : V} (I : Inv X pins σ H ⟨hp, g, dr, t, os⟩) (M : Made hp h' e C d u) (r : RelV v u) :
    H d = none ∧ (upd H d (.xd [(("value" : Str), v)])) e = none ∧ ∃ G' : Heap, Inv X pins σ (upd H d (.xd [(("value" : Str), v)])) ⟨G', g, dr, tk, os⟩ ∧ (∀ b o, G'.get? b = some o → h'.get? b = some o) ∧ G'.get? e = none ∧
      Inv X pins σ (upd (upd H d (.xd [(("value" : Str), v)])) e (ExcO (.ref C) (some d) e)) ⟨h', g, dr, tk, os⟩ := by
  obtain ⟨oe, fv, e1, e2, e3, e4, e5⟩ := M.obj
  obtain ⟨G', g1, g2⟩ := L2.restrict h' fun b => decide (b ≠ e)
  have gk : ∀ b, b ≠ e → G'.get? b = h'.get? b := fun b hb => g1 b (decide_eq_true hb)
  have ge : G'.get? e = none := g2 e (by simp)
  have old : ∀ b o, hp.get? b = some o → G'.get? b = some o := fun b o q => (gk b (Nat.ne_of_lt (Nat.lt_of_lt_of_le (Heap.lt_size q) M.new))).trans (M.keep b o q)
  have up : ∀ b o, G'.get? b = some o → h'.get? b = some o := fun b o q => by
    by_cases hb : b = e
    · rw [hb, ge] at q
      cases q
    · exact (gk b hb).symm.trans q
  have ob : L2.ObjOk X.prog X.w (upd H d (.xd [(("value" : Str), v)])) G' d (.xd [(("value" : Str), v)]) := ⟨_, M.ns.at (fun o q => (gk d M.dne).trans q), fun f => relO_value r f⟩
  have J : Inv X pins σ (upd H d (.xd [(("value" : Str), v)])) ⟨G', g, dr, tk, os⟩ := I.laid (t' := tk) old M.dbig ob
  have nd : H d = none := I.hok.fresh M.dbig
  have ne : (upd H d (.xd [(("value" : Str), v)])) e = none := by
    rw [upd_ne (Ne.symm M.dne)]
    exact I.hok.fresh M.new
  exact ⟨nd, ne, G', J, up, ge, J.laidN (h' := h') (t' := tk) up ge ne (excO_ok e1 ⟨e2, e3⟩ e4)⟩
theorem mk_sat {m : Mp} {h : AH} {H : Hp} {Q : VK} {E : XK} {c : Nat} {w : W} {v : V} {d e : Addr} (R : Rel G m h H) (r : VR G m w v) (nd : H d = none) (ne : (upd H d (.xd [(("value" : Str), v)])) e = none) (q : Sat G m E (VR G) (ofO (oMk c w h)) Q) :
    Q (.ref e) (upd (upd H d (.xd [(("value" : Str), v)])) e (ExcO (.ref (G.ga c)) (some d) e)) := by
  have R1 : Rel G (m.snoc d) (h.new (.xd w)) (upd H d (.xd [(("value" : Str), v)])) := R.new nd ⟨v, r.mono (m.le_snoc d), rfl⟩
  have at1 : (m.snoc d).as[h.n]? = some d := by
    show (m.as ++ [d])[h.n]? = some d
    rw [← R.len]
    exact List.getElem?_concat_length
  have R2 := R1.new (c := .exc c h.n) ne ⟨d, ((m.snoc d).le_snoc e).at at1, rfl⟩
  refine q _ _ _ ((m.le_snoc d).trans ((m.snoc d).le_snoc e)) R2 ⟨e, ?_, rfl⟩
  show ((m.snoc d).as ++ [e])[h.n + 1]? = some e
  rw [show h.n + 1 = (m.snoc d).as.length from R1.len.symm]
  exact List.getElem?_concat_length
section
variable {k : Nat} {c : Nat} {fI : Addr} {qual x : Str} {p : Pos}
open PySem.TieX in
theorem mk_call {pins : List (Addr × Obj)} {σ : St} {H : Hp} {s : Shared} {Q : VK} {us : List Value} {kw : List (Str × Value)} {u : Value} {v : V} (T : TieTxt X.prog X.K (G.ga c) fI qual) (hsup : X.mg "super" = none) (hr : Room k X.A) (I : Inv X pins σ H s) (r : RelV v u)
    (hw : (us = [u] ∧ kw = []) ∨ (us = [] ∧ kw = [(("value" : Str), u)]) ∨ (us = [] ∧ kw = [] ∧ u = .none)) (q : ∀ d e, H d = none → (upd H d (.xd [(("value" : Str), v)])) e = none → Q (.ref e) (upd (upd H d (.xd [(("value" : Str), v)])) e (ExcO (.ref (G.ga c)) (some d) e))) :
    wpAny (model X.prog X.w) X.A (call (.ref (G.ga c)) us kw) (L2.EP X pins σ Q) X.xe s := by
  obtain ⟨hp, g, dr, tk, os⟩ := s
  obtain ⟨mb, b1, b2⟩ := I.mod.blt
  refine wpAny_call (tie_made3 T hw I.kIn (I.mod.glob.keeps I.bk) hsup (b1.keeps I.bk) (b2 _ (by decide)) I.nolimit (by have := hr.dp; omega) L2.make_depth fun h' tk' e d M => ?_)
  obtain ⟨nd, ne, _, _, _, _, J⟩ := made_inv (tk := tk') I M r
  exact ⟨.ref e, _, J, rfl, q d e nd ne⟩
theorem pm_mk {e : Expr} {ge : EM} (T : PySem.TieX.TieTxt X.prog X.K (G.ga c) fI qual) (hsup : X.mg "super" = none) (hr : Room k X.A) (hg : Gl X x) (hm : X.mg x = some (.ref (G.ga c))) (ha : PE X e (tE G Z ge)) (hdb : (x == ("__debug__" : Str)) = false := by decide)
    (he : starEach [e] X.env = (false, eval e X.env) :: starEach [] X.env := by rfl) : PE X (.Call (.Name x p) [e] [] pos) (tE G Z (eOp1 (oMk c) ge)) := by
  refine ⟨fun pins s σ H Q I h => wpAny_Call_Name_kw (L2.ld_glob I hg hm ?_ hdb)⟩
  have h2 : tE G Z ge σ H fun x H1 => rU G (oMk c) x H1 Q := op1_read h
  have h3 : L2.tCons (tE G Z ge) L2.tNil σ H fun xs H1 => ∃ x, xs = [x] ∧ rU G (oMk c) x H1 Q := tE_imp h2 fun x H1 z => ⟨x, rfl, z⟩
  refine PySem.W.callWith_K (h₀ := X.base) I.ok.mod.kin T.kC (L2.thn ((L2.pa_cons ha L2.pa_nil he).run pos pins s σ H _ I h3) fun us s1 z => ?_) he (by rfl)
  obtain ⟨vs, H1, I1, r1, x', rfl, m, h', a, R, ra, q⟩ := z
  obtain ⟨u, rfl, ru⟩ := L2.vals1 r1
  exact ⟨I1.kIn, mk_call T hsup hr I1 ru (.inl ⟨rfl, rfl⟩) fun d e nd ne => mk_sat R ra nd ne q⟩
theorem pm_mk0 (T : PySem.TieX.TieTxt X.prog X.K (G.ga c) fI qual) (hsup : X.mg "super" = none) (hr : Room k X.A) (hg : Gl X x) (hm : X.mg x = some (.ref (G.ga c))) (hdb : (x == ("__debug__" : Str)) = false := by decide) : PE X (.Call (.Name x p) [] [] pos) (tE G Z (eOp1 (oMk c) (eC .non))) := by
  refine ⟨fun pins s σ H Q I h => wpAny_Call_Name_kw (L2.ld_glob I hg hm ?_ hdb)⟩
  obtain ⟨m, h', sl, R, S, q⟩ := h
  exact PySem.W.callWith_K0 I.kIn T.kC (mk_call (v := .non) (u := .none) T hsup hr I rfl (.inr (.inr ⟨rfl, rfl, rfl⟩)) fun d e nd ne => mk_sat (w := .non) R rfl nd ne q)
theorem pm_mkK {e : Expr} {ge : EM} {kp : Pos} (T : PySem.TieX.TieTxt X.prog X.K (G.ga c) fI qual) (hsup : X.mg "super" = none) (hr : Room k X.A) (hg : Gl X x) (hm : X.mg x = some (.ref (G.ga c))) (ha : PE X e (tE G Z ge)) (hdb : (x == ("__debug__" : Str)) = false := by decide)
    (hall : (backToKw pos (keywordEach [⟨some "value", e, kp⟩] X.env)).all (·.1.isSome) = true := by rfl) (hks : (backToKw pos (keywordEach [⟨some "value", e, kp⟩] X.env)).filterMap (·.1) = [("value" : Str)] := by rfl)
    (hpl : ((backTo pos (starEach [] X.env)).any (·.1) || (backToKw pos (keywordEach [⟨some "value", e, kp⟩] X.env)).any (·.1.isNone)) = false := by rfl) : PE X (.Call (.Name x p) [] [⟨some "value", e, kp⟩] pos) (tE G Z (eOp1 (oMk c) ge)) := by
  refine ⟨fun pins s σ H Q I h => wpAny_Call_Name_kw (L2.ld_glob I hg hm ?_ hdb)⟩
  have h2 : tE G Z ge σ H fun x H1 => rU G (oMk c) x H1 Q := op1_read h
  have h3 : L2.tCons (tE G Z ge) L2.tNil σ H fun xs H1 => ∃ x, xs = [x] ∧ rU G (oMk c) x H1 Q := tE_imp h2 fun x H1 z => ⟨x, rfl, z⟩
  refine PySem.W.callWith_KW0 (h₀ := X.base) I.ok.mod.kin T.kC hall (L2.thn ((L2.pk_cons ha L2.pk_nil).run pos pins s σ H _ I h3) fun us s1 z => ?_) hpl
  obtain ⟨vs, H1, I1, r1, x', rfl, m, h', a, R, ra, q⟩ := z
  obtain ⟨u, rfl, ru⟩ := L2.vals1 r1
  rw [hks]
  exact ⟨I1.kIn, mk_call T hsup hr I1 ru (.inr (.inl ⟨rfl, rfl⟩)) fun d e nd ne => mk_sat R ra nd ne q⟩
/-! ### raised -/
open PySem.TieX in
theorem pms_raise {e : Expr} {ge : EM} {p2 : Pos} (T : TieTxt X.prog X.K (G.ga c) fI qual) (hsup : X.mg "super" = none) (hexc : PySem.W.subIn X.K (.ref (G.ga c)) (.type "BaseException") = some true) (htyp : PySem.W.typeIn X.K (.ref (G.ga c)) = some (.type "type")) (hcalm : X.calm = true) (tk : Takes X Z)
    (hr : Room k X.A) (hg : Gl X x) (hm : X.mg x = some (.ref (G.ga c))) (ha : PE X e (tE G Z ge)) (hdb : (x == ("__debug__" : Str)) = false := by decide)
    (he : starEach [e] X.env = (false, eval e X.env) :: starEach [] X.env := by rfl) : PS X (.Raise (some (.Call (.Name x p) [e] [] pos)) none p2) (tS G Z (sRaise (mMk c ge))) := by
  refine ps_of (L2.ps_raise (t := fun σ H Q => tE G Z ge σ H fun v H1 => ∀ d, H1 d = none → Q (.ref (G.ga c)) (some d) (upd H1 d (.xd [(("value" : Str), v)]))) hcalm tk fun pins s σ H Q I h => ?_) fun D σ H h => ?_
  · refine wpAny_Call_Name_kw (L2.ld_glob I hg hm ?_ hdb)
    have h3 : L2.tCons (tE G Z ge) L2.tNil σ H fun xs H1 => ∃ v, xs = [v] ∧ ∀ d, H1 d = none → Q (.ref (G.ga c)) (some d) (upd H1 d (.xd [(("value" : Str), v)])) := tE_imp h fun x H1 z => ⟨x, rfl, z⟩
    refine PySem.W.callWith_K (h₀ := X.base) I.ok.mod.kin T.kC (L2.thn ((L2.pa_cons ha L2.pa_nil he).run pos pins s σ H _ I h3) fun us s1 z => ?_) he (by rfl)
    obtain ⟨vs, H1, I1, r1, v, rfl, q⟩ := z
    obtain ⟨u, rfl, ru⟩ := L2.vals1 r1
    refine ⟨I1.kIn, ?_⟩
    obtain ⟨hp, g, dr, tk', os⟩ := s1
    obtain ⟨mb, b1, b2⟩ := I1.mod.blt
    refine wpAny_call (tie_made3 (v := u) T (.inl ⟨rfl, rfl⟩) I1.kIn (I1.mod.glob.keeps I1.bk) hsup (b1.keeps I1.bk) (b2 _ (by decide)) I1.nolimit (by have := hr.dp; omega) L2.make_depth fun h' tk2 e d M => ?_)
    obtain ⟨oe, fv, e1, e2, e3, e4, e5⟩ := M.obj
    obtain ⟨nd, ne, G', J, up, ge', _⟩ := made_inv (tk := tk2) I1 M ru
    exact ⟨e, oe, fv, ⟨G', g, dr, tk2, os⟩, _, .ref (G.ga c), some d, rfl, J, up, ge', e1, ⟨e2, e3⟩, e4, e5, ne, rfl, I1.bare, L2.raises_own hexc htyp, q d nd⟩
  · obtain ⟨m, h, s, R, S, q⟩ := h
    refine ⟨m, h, s, R, S, ?_⟩
    unfold sRaise mMk at q
    cases e1 : ge s h with
    | no =>
      rw [e1] at q
      exact q.elim
    | exc c' d' h' =>
      rw [e1] at q
      exact fun m' H' ad l R' ea => q m' σ H' ad l R' (S.mono l) ea
    | ok v h1 =>
      rw [e1] at q
      intro m' H' b l R' rb d nd
      refine q (m'.snoc d) σ _ d (l.trans (m'.le_snoc d)) (R'.new nd ⟨b, rb.mono (m'.le_snoc d), rfl⟩) (S.mono (l.trans (m'.le_snoc d))) ?_
      show (m'.as ++ [d])[h1.n]? = some d
      rw [← R'.len]
      exact List.getElem?_concat_length
end
/-! ### asked for their class -/
structure Anc (K : PySem.W.Frag) (ga : Nat → Addr) (n : Nat) (anc : Nat → List Nat) : Prop where
  own : ∀ a < n, ∀ b < n, PySem.W.kitOne K (.ref (ga a)) (.ref (ga b)) = some ((anc a).elem b)
  ve : ∀ a < n, PySem.W.kitOne K (.ref (ga a)) (.type "ValueError") = some true
  cls : ∀ a < n, L2.ExcC K (ga a)
theorem memN_ok {a : Nat} : ∀ l : List Nat, memN a l = l.elem a
  | [] => rfl
  | b :: r => by
    unfold memN
    rw [List.elem_cons, ← memN_ok r]
    cases e : Nat.beq a b with
    | true => rw [show (a == b) = true by rw [Nat.eq_of_beq_eq_true e]; exact beq_self_eq_true _] <;> rfl
    | false => rw [show (a == b) = false from beq_eq_false_iff_ne.mpr fun z => by rw [z, Nat.beq_refl] at e; cases e] <;> rfl
theorem inst_of {pins : List (Addr × Obj)} {σ : St} {H : Hp} {s : Shared} {m : Mp} {h : AH} (I : Inv X pins σ H s) (R : Rel G m h H) {w : W} {v : V} {c : Nat} (r : VR G m w v) (e : excOf h w = some c) : ∃ a, v = .ref a ∧ ∃ ox od, PySem.W.InstAt s.heap a ox (G.ga c) od := by
  unfold excOf at e
  cases w with
  | ref l =>
    obtain ⟨a, ha, rfl⟩ := r
    refine ⟨a, rfl, ?_⟩
    dsimp only at e
    cases e1 : h.get l with
    | none => rw [e1] at e; cases e
    | some c1 =>
      rw [e1] at e
      cases c1 with
      | exc c2 d =>
        cases e
        obtain ⟨_, o1, ad, e2, rfl⟩ := R.see ha e1
        obtain ⟨⟨oe, vs, g1, g2, g3⟩, _⟩ := (show L2.ObjOk X.prog X.w H s.heap a (ExcO (.ref (G.ga c)) (some ad) a) from I.hok a _ o1)
        obtain ⟨c3, o3, k1, k2, k3⟩ := R.cell d ad e2
        obtain ⟨ob, hob⟩ := L2.objOk_get (I.hok ad _ k2)
        obtain ⟨oc, odi, oda, osl⟩ := oe
        obtain ⟨z1, z2⟩ := g2
        dsimp only at z1 z2 g3
        subst z1 z2 g3
        exact ⟨_, some ob, ⟨g1, rfl, rfl, hob⟩⟩
      | exn c2 =>
        cases e
        obtain ⟨_, o1, rfl⟩ := R.see ha e1
        obtain ⟨⟨oe, vs, g1, g2, g3⟩, _⟩ := (show L2.ObjOk X.prog X.w H s.heap a (ExcO (.ref (G.ga c)) none a) from I.hok a _ o1)
        obtain ⟨oc, odi, oda, osl⟩ := oe
        obtain ⟨z1, z2⟩ := g2
        dsimp only at z1 z2 g3
        subst z1 z2 g3
        exact ⟨_, none, ⟨g1, rfl, rfl, trivial⟩⟩
      | _ => cases e
  | _ => cases e
theorem isx_run {pins : List (Addr × Obj)} {σ : St} {H : Hp} {s : Shared} {Q : VK} {a : Addr} {c : Nat} {n : Nat} {anc : Nat → List Nat} {u : Value} {b : Bool} (T : Anc X.K G.ga n anc) (hc : c < n) (I : Inv X pins σ H s) (J : ∃ ox od, PySem.W.InstAt s.heap a ox (G.ga c) od)
    (e : PySem.W.kitOne X.K (.ref (G.ga c)) u = some b) (q : Q (.bl b) H) : wpAny (model X.prog X.w) X.A (call (.builtin "isinstance") [.ref a, u]) (L2.EP X pins σ Q) X.xe s :=
  PySem.W.kia_one (PySem.TieX.kit_exc (T.cls c hc)) I.kIn J e (fun z => nomatch z) fun tk => ⟨.bl b, H, I.tok tk, rfl, q⟩
theorem cr_isX {n : Nat} {anc : Nat → List Nat} (T : Anc X.K G.ga n anc) (hK : X.K = G.K := by rfl) : CallR X (.builtin "isinstance") (rN G (oIsX n anc)) := fun pins s σ H xs us Q I rx hh => by
  obtain ⟨m, h, as, R, rs, q⟩ := hh
  cases rs with
  | nil => exact q.elim
  | @cons w v _ _ r t =>
    cases t with
    | nil => exact q.elim
    | @cons w2 v2 _ _ r2 t =>
      cases t with
      | cons _ _ => cases w2 with
        | ty t => cases t <;> exact q.elim
        | _ => exact q.elim
      | nil =>
        obtain ⟨u1, u2, rfl, ru1, ru2⟩ := L2.vals2 rx
        cases w2 with
        | glo b =>
          cases r2
          cases (show u2 = Value.ref (G.ga b) from ru2)
          unfold oIsX at q
          dsimp only at q
          cases e : excOf h w with
          | none =>
            rw [e] at q
            exact q.elim
          | some a =>
            rw [e] at q
            dsimp only at q
            cases e2 : Nat.blt a n && Nat.blt b n with
            | false =>
              rw [e2] at q
              exact q.elim
            | true =>
              rw [e2] at q
              obtain ⟨z1, z2⟩ := Bool.and_eq_true_iff.mp e2
              obtain ⟨ad, rfl, J⟩ := inst_of I R r e
              cases (show u1 = Value.ref ad from ru1)
              exact isx_run T (Nat.le_of_ble_eq_true z1) I J (T.own a (Nat.le_of_ble_eq_true z1) b (Nat.le_of_ble_eq_true z2)) (q m H _ (.refl m) R (by rw [memN_ok]; exact rfl))
        | ty t =>
          cases r2
          have plain : Sat G m (fun _ _ _ => False) (VR G) (ofO (match kind h w with
              | some k => some (W.bl (k.isT t), h)
              | none => none)) Q → wpAny (model X.prog X.w) X.A (call (.builtin "isinstance") [u1, u2]) (L2.EP X pins σ Q) X.xe s := fun q => by
            refine cr_isi hK pins s σ H [v, .ty t.nm] [u1, u2] Q I rx ⟨m, h, [w, .ty t], R, .cons r (.cons rfl .nil), ?_⟩
            exact q
          unfold oIsX at q
          cases t with
          | verr =>
            dsimp only at q
            cases e : excOf h w with
            | none =>
              rw [e] at q
              exact q.elim
            | some a =>
              rw [e] at q
              dsimp only at q
              cases e2 : Nat.blt a n with
              | false =>
                rw [e2] at q
                exact q.elim
              | true =>
                rw [e2] at q
                obtain ⟨ad, rfl, J⟩ := inst_of I R r e
                cases (show u1 = Value.ref ad from ru1)
                cases (show u2 = Value.type "ValueError" from ru2)
                exact isx_run T (Nat.le_of_ble_eq_true e2) I J (T.ve a (Nat.le_of_ble_eq_true e2)) (q m H _ (.refl m) R rfl)
          | _ => exact plain q
        | _ => exact q.elim
/-! ### their value -/
theorem pm_val {e : Expr} {ge : EM} {n : Nat} {anc : Nat → List Nat} (T : Anc X.K G.ga n anc) (hno : ∀ c < n, PySem.W.findIn X.K (.ref (G.ga c)) "value" = some none) (he : PE X e (tE G Z ge)) (hb : attributeBase e "value" X.env (eval e X.env) = eval e X.env := by rfl) :
    PE X (.Attribute e "value" pos) (tE G Z (eOp1 (oVal n) ge)) := by
  refine ⟨fun pins s σ H Q I h => ?_⟩
  have h2 : tE G Z ge σ H fun x H1 => rU G (oVal n) x H1 Q := op1_read h
  refine L2.attr_of hb (L2.thn (he.run pins s σ H _ I h2) fun u s1 ⟨x, H1, I1, rx, m, h1, w, R, r, q⟩ => ?_)
  unfold oVal at q
  cases w with
  | ref l =>
    dsimp only at q
    cases e1 : h1.get l with
    | none => rw [e1] at q; exact q.elim
    | some c1 =>
      rw [e1] at q
      cases c1 with
      | exc c d =>
        dsimp only at q
        cases e2 : Nat.blt c n with
        | false => rw [e2] at q; exact q.elim
        | true =>
          rw [e2] at q
          dsimp only at q
          cases e3 : h1.get d with
          | none => rw [e3] at q; exact q.elim
          | some c2 =>
            rw [e3] at q
            cases c2 with
            | xd v =>
              have hc := Nat.le_of_ble_eq_true e2
              obtain ⟨a, ha, rfl⟩ := r
              obtain ⟨_, o1, ad, had, rfl⟩ := R.see ha e1
              obtain ⟨_, o2, v', rv, rfl⟩ := R.see had e3
              cases (show u = Value.ref a from rx)
              obtain ⟨⟨oe, vs, g1, g2, g3⟩, _⟩ := (show L2.ObjOk X.prog X.w H1 s1.heap a (ExcO (.ref (G.ga c)) (some ad) a) from I1.hok a _ o1)
              obtain ⟨mA, hns, hr⟩ := (show L2.ObjOk X.prog X.w H1 s1.heap ad (.xd [(("value" : Str), v')]) from I1.hok ad _ o2)
              obtain ⟨od, ho, hl⟩ := L2.lookIn_ns hns
              obtain ⟨u', hu, ru⟩ := L2.RelO.some_of (v := v') (o := mA "value") (by
                have z := hr "value"
                rw [show List.lookup ("value" : Str) [(("value" : Str), v')] = some v' by simp [List.lookup]] at z
                exact z)
              have J : PySem.W.InstAt s1.heap a oe (G.ga c) (some od) := ⟨g1, g2.1, by unfold PySem.W.notCls; rw [g3] <;> rfl, by rw [g2.2]; exact ho⟩
              have TC := T.cls c hc
              exact HandSPX.exc_get I1.kIn J TC.hg TC.hk TC.hs (PySem.W.findObj_own TC.hd (hno c hc) rfl (by rw [hl, hu])) (L2.handed_of ru) ⟨v', H1, I1.tok _, ru, q m H1 v' (.refl m) R rv⟩
            | _ => exact q.elim
      | _ => exact q.elim
  | _ => exact q.elim
end
end Pm
/-! PmMore: errors without an __init__, dicts' displays, repeated texts. -/
namespace Pm
open PySem PySem.Spec
open L2 (V Hp HO Cx Inv PE PT PA PS PSs PW TE TT TA TS St VK XK WX Ends RelV Vals upd upd_same upd_ne Takes R2 OpR CallR MtR tOp tVar Vis Gl Room Binds)
section
variable {X : Cx} {G : Gx} {Z : WX} {pos : Pos}
def eMkN (c : Nat) : EM := fun _ h => .ok (.ref h.n) (h.new (.exn c))
theorem pm_mkN {c : Nat} {x : Str} {p : Pos} (q : PySem.W.excIn X.K (G.ga c) PySem.HandSPX.veTail "ValueError.__new__" = true) (kC : PySem.W.keepIn X.K (.ref (G.ga c)) = true) (hg : Gl X x) (hm : X.mg x = some (.ref (G.ga c))) (hdb : (x == ("__debug__" : Str)) = false := by decide) : PE X (.Call (.Name x p) [] [] pos) (tE G Z (eMkN c)) := by
  refine ⟨fun pins s σ H Q I h => wpAny_Call_Name_kw (L2.ld_glob I hg hm ?_ hdb)⟩
  obtain ⟨m, h', sl, R, S, z⟩ := h
  refine PySem.W.callWith_K0 I.kIn kC ?_
  obtain ⟨bm, N, nm, qn, bs, hdct, sn, sub, ab, col, dd, k0, k1, k2, k3, k5, mN, hC, hN, hni, T⟩ := L2.exc_obj I.kIn q
  refine wpAny_call_exc_subT PySem.F.excBase_ValueError T hC hN hni (fun hp a hm => ?_) (Nat.zero_le _)
  have hn : H a = none := I.hok.gone hm.new
  obtain ⟨t, ht, _, _⟩ := hm.there
  exact ⟨.ref a, upd H a (ExcO (.ref (G.ga c)) none a), I.laidN hm.keeps hm.new hn (excO_ok ht ⟨rfl, rfl⟩ rfl), rfl, new_sat (c := .exn c) R hn rfl z⟩
/-! ### {}, {k: v} -/
theorem pm_dict0 : PE X (.Dict [] [] pos) (tE G Z eD0) := pe_of L2.pe_dnewK fun σ H Q h => by
  obtain ⟨m, h', sl, R, S, z⟩ := h
  exact fun p np => new_sat (c := .dct []) R np ⟨[], .nil, rfl⟩ z
def eD1 (k : Sum Int (List Nat)) (g : EM) : EM := fun σ h => (g σ (h.new (.dct []))).bind fun v h1 => match h1.get h.n with
  | some (.dct []) => .ok (.ref h.n) (h1.put h.n (.dct [(k, v)]))
  | _ => .no
theorem pm_dict1 {ke e : Expr} {k : Sum Int (List Nat)} {g : EM} (hk : PE X ke (L2.tC (L2.kV (kof k)))) (he : PE X e (tE G Z g)) : PE X (.Dict [some ke] [e] pos) (tE G Z (eD1 k g)) :=
  pe_of (L2.pe_disp (L2.pps_cons hk he L2.pps_nil) rfl rfl (by simp) (by simp)) fun σ H Q h => by
    obtain ⟨m, h', sl, R, S, z⟩ := h
    intro p np
    have R1 : Rel G (m.snoc p) (h'.new (.dct [])) (upd H p (.dK [])) := R.new np ⟨[], .nil, rfl⟩
    have at1 : (m.snoc p).as[h'.n]? = some p := by
      show (m.as ++ [p])[h'.n]? = some p
      rw [← R.len]
      exact List.getElem?_concat_length
    refine ⟨m.snoc p, h'.new (.dct []), sl, R1, S.mono (m.le_snoc p), ?_⟩
    have z' : Sat G (m.snoc p) (fun c d H => Z c d σ H) (VR G) (eD1 k g sl h') Q := z.mono (m.le_snoc p)
    refine (Sat.bind (R := VR G) z').imp fun v H1 y => ?_
    obtain ⟨m1, w, h1, l1, R2, rv, y⟩ := y
    cases e1 : h1.get h'.n with
    | none => rw [e1] at y; exact y.elim
    | some c1 =>
      rw [e1] at y
      cases c1 with
      | dct ks =>
        cases ks with
        | cons _ _ => exact y.elim
        | nil =>
          obtain ⟨_, o1, kv, r1, rfl⟩ := R2.see (l1.at at1) e1
          cases r1
          refine ⟨o1, [(kof k, v)], rfl, by simp, ?_⟩
          exact y m1 _ (.ref p) (.refl m1) (R2.put (c := .dct []) (c' := .dct [(k, w)]) (l1.at at1) e1 rfl ⟨[(kof k, v)], .cons ⟨rfl, rv⟩ .nil, rfl⟩) ⟨p, l1.at at1, rfl⟩
      | _ => exact y.elim
/-! ### a text, n times -/
def rMulS : R2 := fun x y H Q => ∃ (a : List Nat) (n : Nat), x = .str ⟨a.toArray⟩ ∧ y = .int n ∧ n ≤ 1000 ∧ a.length ≤ 1000 ∧ Q (.str ⟨(creps a n).toArray⟩) H
theorem fold_creps (a : List Nat) : ∀ (n : Nat) (b : Array Nat), (List.replicate n a.toArray).foldl (· ++ ·) b = b ++ (creps a n).toArray
  | 0, b => by simp [creps]
  | n + 1, b => by
    rw [List.replicate_succ, List.foldl_cons, fold_creps a n]
    simp [creps]
theorem op_mulS : OpR X (binaryOp .Mult) rMulS := by
  intro pins s σ H x y v u Q I rx ry h
  obtain ⟨a, n, rfl, rfl, hn, ha, q⟩ := h
  obtain ⟨t, rfl⟩ := rx
  obtain ⟨t', rfl⟩ := ry
  have e0 : creps a n = [] → L2.EP X pins σ Q (.str Str.empty s.toks) { s with toks := s.toks + 1 } := fun e => ⟨.str ⟨(creps a n).toArray⟩, H, I.tok _, ⟨s.toks, by rw [e]; rfl⟩, q⟩
  have len : ∀ n : Nat, (creps a n).length = a.length * n := fun n => by
    induction n with
    | zero => rfl
    | succ n ih =>
      show (a ++ creps a n).length = _
      rw [List.length_append, ih, Nat.mul_succ]
      omega
  have small : a.length * n ≤ 1000 * 1000 := Nat.mul_le_mul ha hn
  have hlen : (⟨a.toArray⟩ : Str).length = a.length := by show a.toArray.size = _; simp
  refine PySem.P.mul_str (by
    rw [decide_eq_false (show ¬ ((n : Int) < -(2 ^ 63 : Int)) by omega), decide_eq_false (show ¬ ((n : Int) ≥ 2 ^ 63) by omega)]
    rfl) (fun h1 _ h2 => ?_) (fun _ _ => ?_) ?_
  · have h3 : (1000 : Int) ≤ (2 ^ 63 - 1) / (n : Int) := Int.le_ediv_of_mul_le (by omega) (by omega)
    rw [hlen] at h2
    omega
  · show decide (_ > sizeLine) = false
    rw [hlen, Int.toNat_natCast]
    exact decide_eq_false (by rw [sizeLine_eq]; omega)
  · split
    · have e : n = 0 := by omega
      subst e
      exact ⟨Nat.zero_le _, e0 rfl⟩
    · split
      · rename_i h1
        rw [Bool.or_eq_true, beq_iff_eq, beq_iff_eq, hlen] at h1
        have e : creps a n = a := by
          rcases h1 with h1 | h1
          · have h1' : n = 1 := by omega
            subst h1'
            show a ++ [] = a
            exact List.append_nil a
          · have h1' : a = [] := List.length_eq_zero_iff.mp h1
            have h2 := len n
            rw [h1, Nat.zero_mul] at h2
            rw [List.length_eq_zero_iff.mp h2, h1']
        exact ⟨.str ⟨(creps a n).toArray⟩, H, I, ⟨t, by rw [e]⟩, q⟩
      · have e : (⟨(List.replicate (n : Int).toNat (⟨a.toArray⟩ : Str).cps).foldl (· ++ ·) #[]⟩ : Str) = ⟨(creps a n).toArray⟩ := by
          rw [Int.toNat_natCast]
          show (⟨(List.replicate n a.toArray).foldl (· ++ ·) #[]⟩ : Str) = _
          rw [fold_creps]
          simp
        rw [e]
        refine ⟨?_, ⟨.str ⟨(creps a n).toArray⟩, H, I.tok _, ⟨_, rfl⟩, q⟩⟩
        show (creps a n).toArray.size ≤ sizeLine
        rw [List.size_toArray, len, sizeLine_eq]
        omega
theorem or_mulS : OpR X (binaryOp .Mult) (rO G oMulS) := opr_of (or_mul.or op_mulS) fun x y H Q h => by
  obtain ⟨m, h, a, b, R, ra, rb, q⟩ := h
  have other : Sat G m (fun _ _ _ => False) (VR G) (ofO (oMul a b h)) Q → rO G oMul x y H Q := fun z => ⟨m, h, a, b, R, ra, rb, z⟩
  unfold oMulS at q
  cases a with
  | txt d =>
    cases d with
    | str a =>
      cases b with
      | int i =>
        cases i with
        | ofNat n =>
          dsimp only at q
          cases e : Nat.ble n 1000 && Nat.ble a.length 1000 with
          | false =>
            rw [e] at q
            exact q.elim
          | true =>
            rw [e] at q
            obtain ⟨z1, z2⟩ := Bool.and_eq_true_iff.mp e
            cases ra
            cases rb
            exact .inr ⟨a, n, rfl, rfl, Nat.le_of_ble_eq_true z1, Nat.le_of_ble_eq_true z2, q m H _ (.refl m) R rfl⟩
        | negSucc n => exact .inl (other q)
      | _ => exact .inl (other q)
    | _ => exact .inl (other q)
  | _ => exact .inl (other q)
end
end Pm
/-! PmLaw: from the meaning of a law's def to the law's row. -/
namespace Pm
open PySem PySem.Spec PySem.W
open PyProof.Rows (AllBare)
open L2 (V Hp HO Cx Inv XK WX RelV Vals upd upd_same upd_ne Room hidT hidT_get of_hidT hidT_size)
section
variable {P : Program} {w : World} {K : PySem.W.Frag} {mg mb : Str → Option Value} {k : Nat} {fa a : Addr} {fd : FuncData} {x : Str} {s₁ : Shared} {vs : List Value} {ns : List Int} {G : Gx} {fn : Fn}
theorem law_core (hG : G.m0 = ⟨[], []⟩ ∧ G.tt = [] ∧ G.cs = [] ∧ G.sa = a ∧ G.K = K ∧ G.ns = ns) (KX : K.In s₁.heap) (g1 : s₁.heap.Ns mainGlobals mg) (g2 : s₁.heap.Ns builtinsNs mb) (g3 : ∀ x : Str, x ≠ "__name__" → mb x = bootBuiltins x) (g4 : s₁.heap.NoLimit) (g5 : s₁.gens = #[])
    (ha : s₁.heap.get? a = some { cls := .type "list", data := .seq vs.toArray }) (hr : Room k callerA) (F : FnG G P w K mg k fa fd [x] fn) (hbind : ∀ (s : Shared) (u : Value), BindsTo s fd ⟨[u], []⟩ [(x, u)])
    (hfn : ∃ h', fn [.scr] (AH.nil ns) = .ok (.bl true) h') {H : Hp} (hO : L2.Only H) (hS : ScrR K H a (ns.map V.int)) (hok : L2.HOk P w H s₁.heap) (hA : ∀ b, H b ≠ none → b = a) (hK : H a ≠ none → K.lookup a = none) :
    codeAny (model P w) callerA (.call (.ref fa) ⟨[.ref a], []⟩) (fun r s' => r = .ok (.ret (.bool true)) ∧ OldK s₁.heap s'.heap ∧ s'.os = s₁.os ∧ AllBare s'.gens) s₁ := by
  have here : ∀ {b : Addr} {u : HO}, H b = some u → b = a := fun {b u} q => hA b (by rw [q]; exact fun z => nomatch z)
  have noD : ∀ {b : Addr} {o : Obj} {es : Array DictEntry} {ep : Nat}, s₁.heap.get? b = some o → o.data = .dict es ep → H b = none := fun {b o es ep} e d => by
    cases q : H b with
    | none => rfl
    | some u =>
      have e' := here q
      subst e'
      rw [ha] at e; cases e
      exact nomatch (show Data.seq vs.toArray _ = Data.dict es ep from d)
  have nsT : ∀ {b : Addr} {m : Str → Option Value}, s₁.heap.Ns b m → (hidT s₁.heap H).Ns b m := fun ⟨o, es, ep, e, d, r⟩ => ⟨o, es, ep, hidT_get e (noD e d), d, r⟩
  have kT : K.In (hidT s₁.heap H) := fun b o e => hidT_get (KX b o e) (by
    cases q : H b with
    | none => rfl
    | some u =>
      have e' := here q
      subst e'
      rw [hK (by rw [q]; exact fun z => nomatch z)] at e; cases e)
  have M : L2.Mod K mg (hidT s₁.heap H) := ⟨kT, nsT g1, ⟨mb, nsT g2, g3⟩, let ⟨mc, h1, h2⟩ := g4; ⟨mc, nsT h1, h2⟩⟩
  have e0 : L2.Env0 P w K mg (hidT s₁.heap H) callerA [] s₁ H := ⟨rfl, M, fun b o e => of_hidT e, Nat.le_of_eq (hidT_size _ _), trivial, (fun b hb => nomatch (show b ∈ ([] : List Addr) from hb)), hok, AllBare.of_eq g5⟩
  obtain ⟨h', hfn⟩ := hfn
  obtain ⟨z1, z2, z6, z3, z4, z5⟩ := hG
  have R : Rel G ⟨[], []⟩ (AH.nil ns) H := ⟨by rw [z1]; exact Mp.Le.refl _, rfl, rfl, (fun _ _ _ e _ => by simp at e), fun l b e => by simp at e, by rw [z2]; exact (fun p hp => nomatch hp), (by rw [z3, z4]; exact hS), z5.symm, fun l b i act e => by simp at e⟩
  refine codeAny_mono (F.run (hidT s₁.heap H) callerA [] s₁ H ⟨[.ref a], []⟩ [.ref a] [.ref a] (fun v _ => v = .bl true) (fun _ _ _ => False) ⟨[], []⟩ (AH.nil ns) [.scr] rfl hr (fun p hp => by rw [z6] at hp; exact nomatch hp) e0 (hbind s₁ (.ref a)) (.cons rfl .nil) R (.cons (show V.ref a = V.ref G.sa by rw [z3]) .nil) ?_) fun r s' h => ?_
  · rw [hfn]
    exact fun m' H' b _ _ e => e
  · cases r with
    | error e =>
      obtain ⟨_, _, _, _, _, _, _, _, _, _, _, _, z⟩ := (show L2.CX P w [] H s₁ (fun _ _ _ => False) e s' from h)
      exact z.elim
    | ok fl =>
      cases fl with
      | next => exact False.elim h
      | brk => exact False.elim h
      | cont => exact False.elim h
      | ret u =>
        obtain ⟨v, H', os, bare, un, hok', r', q⟩ := h
        obtain rfl : v = .bl true := q
        obtain rfl : u = Value.bool true := r'
        refine ⟨rfl, OldK.of_keep fun b o e => ?_, os, bare⟩
        cases q : H b with
        | none => exact un.keep b o e q (fun z => nomatch (show b ∈ ([] : List Addr) from z)) (by simp)
        | some u =>
          rcases hO b with z | ⟨ob, xs, z⟩
          · rw [q] at z; cases z
          · obtain ⟨e1, _⟩ := hok b _ z
            obtain ⟨e2, _⟩ := hok' b _ (un.frzs b ob _ z)
            rw [e] at e1; cases e1
            exact e2
theorem law_run (hG : G.m0 = ⟨[], []⟩ ∧ G.tt = [] ∧ G.cs = [] ∧ G.sa = a ∧ G.K = K ∧ G.ns = ns) (KX : K.In s₁.heap) (g1 : s₁.heap.Ns mainGlobals mg) (g2 : s₁.heap.Ns builtinsNs mb) (g3 : ∀ x : Str, x ≠ "__name__" → mb x = bootBuiltins x) (g4 : s₁.heap.NoLimit) (g5 : s₁.gens = #[])
    (ha : s₁.heap.get? a = some { cls := .type "list", data := .seq vs.toArray }) (hi : PyProof.Rows.IntsAre vs ns) (hl : ns.length ≤ sizeLine) (hr : Room k callerA) (F : FnG G P w K mg k fa fd [x] fn) (hbind : ∀ (s : Shared) (u : Value), BindsTo s fd ⟨[u], []⟩ [(x, u)])
    (hfn : ∃ h', fn [.scr] (AH.nil ns) = .ok (.bl true) h') :
    codeAny (model P w) callerA (.call (.ref fa) ⟨[.ref a], []⟩) (fun r s' => r = .ok (.ret (.bool true)) ∧ OldK s₁.heap s'.heap ∧ s'.os = s₁.os ∧ AllBare s'.gens) s₁ := by
  have rv := L2.vals_ints hi
  have lv := hi.length
  cases hk : K.lookup a with
  | some o =>
    have e := KX a o hk
    rw [ha] at e
    cases e
    refine law_core hG KX g1 g2 g3 g4 g5 ha hr F hbind hfn (H := fun _ => none) (fun _ => .inl rfl) (.inr (.inr ⟨_, vs.toArray, _, hk, rfl, rfl, rfl, by rw [List.size_toArray, lv]; exact hl, by simpa using rv⟩)) (fun b u z => nomatch (show (none : Option HO) = some u from z)) (fun b z => absurd rfl z) fun z => absurd rfl z
  | none =>
    refine law_core hG KX g1 g2 g3 g4 g5 ha hr F hbind hfn (H := fun b => if b = a then some (.frz { cls := .type "list", data := .seq vs.toArray } (.lst (ns.map V.int))) else none) (fun b => ?_) (.inl ⟨_, if_pos rfl⟩) (fun b u z => ?_) (fun b z => ?_) fun _ => hk
    · by_cases hb : b = a
      · exact .inr ⟨_, _, if_pos hb⟩
      · exact .inl (if_neg hb)
    · by_cases hb : b = a
      · have z' := (if_pos hb).symm.trans z
        cases z'
        subst hb
        exact ⟨ha, by rw [List.length_map]; exact hl, vs, _, rv, ha⟩
      · exact nomatch (if_neg hb).symm.trans z
    · by_cases hb : b = a
      · exact hb
      · exact absurd (if_neg hb) z
end
theorem law_walk {l : PySem.W.OpenLaw} {n k : Nat} {q : Program} {loose : List Str} {XP : (Str → Option Value) → Heap → Prop} {YP : World → Heap → Prop} {d : DefRec} {K : Params → PySem.W.Frag} {x : Str}
    (hn : l.most = some n) (hn2 : n ≤ sizeLine) (hdf : d.params.defaults = []) (hr : Room k callerA) (hY : ∀ (w : World) (h : Heap), YP w h → (K w.params).In h)
    (F : ∀ (w : World) (mg : Str → Option Value) (fa : Addr) (h : Heap), (K w.params).In h → h.Ns mainGlobals mg → mg d.name = some (.ref fa) →
      ∃ fd : FuncData, (∀ (s : Shared) (u : Value), BindsTo s fd ⟨[u], []⟩ [(x, u)]) ∧ ∀ (a : Addr) (ns : List Int), ns.length ≤ n →
        ∃ (G : Gx) (fn : Fn), (G.m0 = ⟨[], []⟩ ∧ G.tt = [] ∧ G.cs = [] ∧ G.sa = a ∧ G.K = K w.params ∧ G.ns = ns) ∧ FnG G l.prog w (K w.params) mg k fa fd [x] fn ∧ ∃ h', fn [.scr] (AH.nil ns) = .ok (.bl true) h') :
    PySem.W.WalkO q loose XP YP l.row.toRowW d [] (fun f vs => PySem.call f vs) := by
  refine Att.attach_call hn hdf fun w s₀ s₁ mg mb fa o pm cd doc a vs ns G Y ho hd hcd hmg hobj hints hlen hg => ?_
  obtain ⟨fd, hb, hF⟩ := F w mg fa _ (hY w _ Y) G.T.g hmg
  obtain ⟨Gm, fn, h1, h2, h3⟩ := hF a ns hlen
  exact law_run h1 (hY w _ Y) G.T.g G.T.b G.T.builtins G.T.nolimit hg hobj hints (Nat.le_trans hlen hn2) hr h2 hb h3
end Pm
/-! PmHead: what the head gives of defs and of error classes. -/
namespace Pm
open PySem PySem.Spec PySem.W PySem.TieX
open L2 (V Hp HO Cx Inv XK WX RelV Vals Room Binds)
structure Df (K : PySem.W.Frag) (mg : Str → Option Value) (y x : Str) (st : Stmt) (f : Addr) (fd : FuncData) : Prop where
  F : L2.Fun K x x st f fd
  m : mg y = some (.ref f)
theorem df_mk {K : PySem.W.Frag} {h : Heap} {mg : Str → Option Value} (st : Stmt) {y x : Str} {f : Addr} {oc : Value} {od an : Option Addr} {osl : Array (Option Value)} {kV doc pm cdv ct : Value} (X : K.In h) (G : h.Ns mainGlobals mg)
    (a : nsIn K mainGlobals y = some (some (.ref f))) (l : K.lookup f = some ⟨oc, od, .func (fnOf x x (L2.defArgs st) (L2.defBody st) (L2.defScope st) .none kV doc pm an cdv ct), osl⟩) (c : codeIn K cdv x = true) (k : keepIn K (.ref f) = true) :
    ∃ (f : Addr) (fd : FuncData), Df K mg y x st f fd := ⟨f, _, L2.fun_mk (st := st) l c k, mg_of X G a⟩
def clsB (K : PySem.W.Frag) (C : Addr) : Bool :=
  decide (findIn K (.ref C) "__getattribute__" = some (some (.builtin "BaseException.__getattribute__"))) && (decide (findIn K (.ref C) "__getattr__" = some none) && (decide (subIn K (.ref C) (.type "BaseException") = some true) && (hasDictIn K C &&
  (decide (findIn K (.ref C) "__class__" = some (some (.builtin "object.__class__"))) && (decide (specialIn K (.builtin "object.__class__") "__get__" = some (some (.builtin "getset_descriptor.__get__"))) && (decide (takesIn K (.builtin "object.__class__") = some true) && (decide (mroIn K C (.type "object") = some true) &&
  (decide (findIn K (.ref C) "value" = some none) && (decide (typeIn K (.ref C) = some (.type "type")) && (keepIn K (.ref C) && (decide (findIn K (.ref C) "__setattr__" = some (some (.builtin "object.__setattr__"))) && decide (kitOne K (.ref C) (.type "ValueError") = some true))))))))))))
structure ClsF (K : PySem.W.Frag) (C : Addr) : Prop where
  e : L2.ExcC K C
  no : findIn K (.ref C) "value" = some none
  ty : typeIn K (.ref C) = some (.type "type")
  kp : keepIn K (.ref C) = true
  sa : findIn K (.ref C) "__setattr__" = some (some (.builtin "object.__setattr__"))
  ve : kitOne K (.ref C) (.type "ValueError") = some true
theorem clsB_ok {K : PySem.W.Frag} {C : Addr} (h : clsB K C = true) : ClsF K C := by
  obtain ⟨h1, h⟩ := Bool.and_eq_true_iff.mp h
  obtain ⟨h2, h⟩ := Bool.and_eq_true_iff.mp h
  obtain ⟨h3, h⟩ := Bool.and_eq_true_iff.mp h
  obtain ⟨h4, h⟩ := Bool.and_eq_true_iff.mp h
  obtain ⟨h5, h⟩ := Bool.and_eq_true_iff.mp h
  obtain ⟨h6, h⟩ := Bool.and_eq_true_iff.mp h
  obtain ⟨h7, h⟩ := Bool.and_eq_true_iff.mp h
  obtain ⟨h8, h⟩ := Bool.and_eq_true_iff.mp h
  obtain ⟨h9, h⟩ := Bool.and_eq_true_iff.mp h
  obtain ⟨h10, h⟩ := Bool.and_eq_true_iff.mp h
  obtain ⟨h11, h⟩ := Bool.and_eq_true_iff.mp h
  obtain ⟨h12, h13⟩ := Bool.and_eq_true_iff.mp h
  exact ⟨⟨of_decide_eq_true h1, of_decide_eq_true h2, of_decide_eq_true h3, h4, of_decide_eq_true h5, of_decide_eq_true h6, of_decide_eq_true h7, of_decide_eq_true h8⟩, of_decide_eq_true h9, of_decide_eq_true h10, h11, of_decide_eq_true h12, of_decide_eq_true h13⟩
def gaOf (cs : List Addr) (g : Nat) : Addr := cs.getD g 0
def ancB (K : PySem.W.Frag) (cs : List Addr) (n : Nat) (anc : Nat → List Nat) : Bool := (List.range n).all fun a => clsB K (gaOf cs a) && (List.range n).all fun b => decide (kitOne K (.ref (gaOf cs a)) (.ref (gaOf cs b)) = some ((anc a).elem b))
theorem ancB_ok {K : PySem.W.Frag} {cs : List Addr} {n : Nat} {anc : Nat → List Nat} (h : ancB K cs n anc = true) : Anc K (gaOf cs) n anc ∧ ∀ c < n, ClsF K (gaOf cs c) := by
  have h1 : ∀ a < n, ClsF K (gaOf cs a) ∧ ∀ b < n, kitOne K (.ref (gaOf cs a)) (.ref (gaOf cs b)) = some ((anc a).elem b) := fun a ha => by
    have z := List.all_eq_true.mp h a (List.mem_range.mpr ha)
    obtain ⟨z1, z2⟩ := Bool.and_eq_true_iff.mp z
    exact ⟨clsB_ok z1, fun b hb => of_decide_eq_true (List.all_eq_true.mp z2 b (List.mem_range.mpr hb))⟩
  exact ⟨⟨fun a ha b hb => (h1 a ha).2 b hb, fun a ha => (h1 a ha).1.ve, fun a ha => (h1 a ha).1.e⟩, fun c hc => (h1 c hc).1⟩
def posF (l : List Pos) (i : Nat) : Pos := l.getD i ⟨0, 0, 0, 0⟩
theorem tie_mk {P : Program} {K : PySem.W.Frag} {C fI : Addr} {qual : Str} {nm q : Str} {N : Addr} {bs bm : List Value} {sn : List Str} {sub : List Value} {ab : Bool} {col : Option Bool} {dd : Option Addr} {k0 k1 k2 k3 k5 : Option Value}
    {oc : Value} {od : Option Addr} {kV doc pm : Value} {an : Option Addr} {ct : Value} {osl : Array (Option Value)} {cc cda T : Addr} {p1 p2 p3 : Pos} {ccl : Value} {cdd : Option Addr} {vs : Array Value} {ccs : Array (Option Value)} {file : Str} {tf : Tok} {cl : Value} {cld : Option Addr} {csl : Array (Option Value)} {tc : Value} {td : Option Addr} {n : Nat} {tsl : Array (Option Value)}
    (ps : List Pos) (B : ClsF K C) (hC : K.lookup C = some (excClassObj nm q C N bs bm true sn sub ab col dd k0 k1 k2 k3 k5 "ValueError.__new__")) (iC : findIn K (.ref C) "__init__" = some (some (.ref fI))) (tI : typeIn K (.ref fI) = some (.type "function"))
    (lf : K.lookup fI = some ⟨oc, od, .func (ksFn "__init__" qual (iA p1 p2 p3) (iB (posF ps)) iS (.ref T) kV doc pm an (.ref cda) ct cc), osl⟩) (cd : codeIn K (.ref cda) qual = true) (lc : K.lookup cda = some ⟨ccl, cdd, .fields vs, ccs⟩) (lx : K.lookup cc = some ⟨cl, cld, .cell (some (.ref C)), csl⟩) (lT : K.lookup T = some ⟨tc, td, .seq #[.none] n, tsl⟩)
    (hv : vs[2]? = some (.str file tf)) (hf : ((P.main.file : Str) == file) = true) (hbm : PySem.HandSPX.refsVE bm = true) (hal : alongIn K "__init__" bm = some (some (.builtin "ValueError.__init__"))) (op : nsIn K cStatics "thirdparty.any" = some none) (sup : nsIn K mainGlobals "super" = some none)
    (tops : (P.main.scope.names.lookup ("super" : Str)).isSome = false) (ev : IEv (posF ps)) : ∃ fI qual, TieTxt P K C fI qual :=
  ⟨fI, qual, ⟨⟨nm, q, N, bs, bm, sn, sub, ab, col, dd, k0, k1, k2, k3, k5, hC, hbm, hal⟩, B.sa, B.no, iC, tI, B.kp, op, sup, tops, ⟨oc, od, kV, doc, pm, an, ct, osl, cc, cda, T, p1, p2, p3, posF ps, lf, cd, ⟨ccl, cdd, vs, ccs, file, tf, lc, hv, hf⟩, ⟨cl, cld, csl, lx⟩, ⟨tc, td, n, tsl, lT⟩, ev⟩⟩⟩
/-! ### the same heap, other words -/
theorem Rel.swap {G : Gx} {m : Mp} {h h' : AH} {H : Hp} (R : Rel G m h H) (en : h'.n = h.n) (ek : h'.k = h.k) (es : h'.s = h.s) (f : ∀ l c, h.get l = some c → ∃ c', h'.get l = some c' ∧ (∀ a o, CR G m a c o → CR G m a c' o) ∧ (c'.isLam = true → c' = c)) (na : ∀ l, isAli (h.get l) = true → isAli (h'.get l) = true) : Rel G m h' H where
  lam := fun l a i act e z => by
    obtain ⟨c, o, e1, e2, e3⟩ := R.cell l a e
    obtain ⟨c', e4, _, e6⟩ := f l c e1
    rw [z] at e4
    cases e4
    exact R.lam l a i act e (by rw [e1, ← e6 rfl])
  pre := R.pre
  len := R.len.trans en.symm
  act := R.act.trans ek.symm
  nd := fun i j a e1 e2 => (R.nd i j a e1 e2).imp id fun z => z.imp (na i) (na j)
  cell := fun l a e => by
    obtain ⟨c, o, e1, e2, e3⟩ := R.cell l a e
    obtain ⟨c', e4, e5, _⟩ := f l c e1
    exact ⟨c', o, e4, e2, e5 a o e3⟩
  tab := R.tab
  sn := es.trans R.sn
  scr := by
    rw [es]
    exact R.scr
theorem fn_okN {G : Gx} {P : Program} {w : World} {K : PySem.W.Frag} {mg : Str → Option Value} {x qual : Str} {st : Stmt} {f : Addr} {fd : FuncData} {N ps : List Str} {k : Nat} {b : SM} {fn : Fn} (n kk : Nat) (F : L2.Fun K x qual st f fd) (S : L2.FnScope N ps (L2.defScope st))
    (hb : ∀ (base : Heap) (cdv : Value) (A : Around) (outer : List Env) (s : Shared) (H : Hp) (E : XK), A.guards = some [] → Room k (A.deeper (PyProof.Rows.envOfC qual (L2.defScope st) s.heap.objs.size f cdv)) → Tbs G base mg →
      L2.PSs (L2.cxOf (L2.CX P w) P w K mg base N qual (L2.defScope st) f cdv A outer s H E) (L2.defBody st) (tS G (fun c d _ H => E c d H) b)) (hf : fn = callM n kk b) (hn : N.length = n := by rfl) (hk : ps.length = kk := by rfl) : FnG G P w K mg (k + 1) f fd ps fn := by
  subst hn hk hf
  exact fn_ok F S hb
/-! ### the built-ins' names -/
theorem bt_int : bootBuiltins "int" = some (.type Ty.int.nm) := by decide +kernel
theorem bt_bool : bootBuiltins "bool" = some (.type Ty.bool.nm) := by decide +kernel
theorem bt_str : bootBuiltins "str" = some (.type Ty.str.nm) := by decide +kernel
theorem bt_list : bootBuiltins "list" = some (.type Ty.list.nm) := by decide +kernel
theorem bt_tuple : bootBuiltins "tuple" = some (.type Ty.tuple.nm) := by decide +kernel
theorem bt_dict : bootBuiltins "dict" = some (.type Ty.dict.nm) := by decide +kernel
theorem bt_verr : bootBuiltins "ValueError" = some (.type Ty.verr.nm) := by decide +kernel
theorem bt_len : bootBuiltins "len" = some (.builtin "len") := by decide +kernel
theorem bt_sum : bootBuiltins "sum" = some (.builtin "sum") := by decide +kernel
theorem bt_max : bootBuiltins "max" = some (.builtin "max") := by decide +kernel
theorem bt_min : bootBuiltins "min" = some (.builtin "min") := by decide +kernel
theorem bt_isi : bootBuiltins "isinstance" = some (.builtin "isinstance") := by decide +kernel
theorem bt_repr : bootBuiltins "repr" = some (.builtin "repr") := by decide +kernel
theorem bt_sorted : bootBuiltins "sorted" = some (.builtin "sorted") := by decide +kernel
/-! ### error classes, their text known to be there -/
section
open L2 (Cx PE PS Gl Takes)
variable {X : Cx} {G : Gx} {Z : WX} {pos : Pos} {k c : Nat} {x : Str} {p : Pos}
theorem mkE {e : Expr} {ge : EM} (T : ∃ fI qual, TieTxt X.prog X.K (G.ga c) fI qual) (hsup : X.mg "super" = none) (hr : Room k X.A) (hg : Gl X x) (hm : X.mg x = some (.ref (G.ga c))) (ha : PE X e (tE G Z ge)) (hdb : (x == ("__debug__" : Str)) = false := by decide)
    (he : starEach [e] X.env = (false, eval e X.env) :: starEach [] X.env := by rfl) : PE X (.Call (.Name x p) [e] [] pos) (tE G Z (eOp1 (oMk c) ge)) := let ⟨_, _, T⟩ := T; pm_mk T hsup hr hg hm ha hdb he
theorem mkE0 (T : ∃ fI qual, TieTxt X.prog X.K (G.ga c) fI qual) (hsup : X.mg "super" = none) (hr : Room k X.A) (hg : Gl X x) (hm : X.mg x = some (.ref (G.ga c))) (hdb : (x == ("__debug__" : Str)) = false := by decide) : PE X (.Call (.Name x p) [] [] pos) (tE G Z (eOp1 (oMk c) (eC .non))) :=
  let ⟨_, _, T⟩ := T; pm_mk0 T hsup hr hg hm hdb
theorem mkEK {e : Expr} {ge : EM} {kp : Pos} (T : ∃ fI qual, TieTxt X.prog X.K (G.ga c) fI qual) (hsup : X.mg "super" = none) (hr : Room k X.A) (hg : Gl X x) (hm : X.mg x = some (.ref (G.ga c))) (ha : PE X e (tE G Z ge)) (hdb : (x == ("__debug__" : Str)) = false := by decide)
    (hall : (backToKw pos (keywordEach [⟨some "value", e, kp⟩] X.env)).all (·.1.isSome) = true := by rfl) (hks : (backToKw pos (keywordEach [⟨some "value", e, kp⟩] X.env)).filterMap (·.1) = [("value" : Str)] := by rfl)
    (hpl : ((backTo pos (starEach [] X.env)).any (·.1) || (backToKw pos (keywordEach [⟨some "value", e, kp⟩] X.env)).any (·.1.isNone)) = false := by rfl) : PE X (.Call (.Name x p) [] [⟨some "value", e, kp⟩] pos) (tE G Z (eOp1 (oMk c) ge)) :=
  let ⟨_, _, T⟩ := T; pm_mkK T hsup hr hg hm ha hdb hall hks hpl
end
end Pm
/-! PmTape: numbers drawn from the script, as letters. -/
namespace Pm
open PySem
def genT (b : Bool) : Fn := fun ws h => match ws with
  | [.scr, .int (.ofNat 0)] => (match b with
    | true => .ok (.ref (h.n + 1)) ((h.new (.lst [])).new (.lst [.raw 0, .raw 1, .raw 2]))
    | false => .ok (.ref h.n) (h.new (.lst [.raw 0, .raw 1, .raw 2])))
  | _ => .no
def rndT (bs : List Int) (ts : List W) : Fn := fun ws h => match ws with
  | [.ref l, .int B] => (match h.get l with
    | some (.lst [.raw i, .raw i1, .raw i2]) => (match nth ts (i / 3) with
      | some t => (match ieq (bs.getD (i / 3) 0) B && (Nat.beq (i % 3) 0 && (Nat.beq i1 (i + 1) && Nat.beq i2 (i + 2))) with
        | true => .ok t (h.put l (.lst [.raw (i + 3), .raw (i + 4), .raw (i + 5)]))
        | false => .no)
      | none => .no)
    | _ => .no)
  | _ => .no
theorem chk_ok {r : Res W} (h : chk r = true) : ∃ h', r = .ok (.bl true) h' := by
  unfold chk at h
  split at h
  · exact ⟨_, rfl⟩
  · cases h
/-! ### steps of a meaning -/
section
variable {σ σ1 : Sl} {h h1 h2 h3 : AH} {x y z : W} {a b : EM} {f : Op2} {g : Op1} {k : OpN} {A B : SM} {i : Nat} {r : SR} {t : Bool} {c : CM}
theorem v_var (e : sget σ i = some x) : eVar i σ h = .ok x h := by unfold eVar; rw [e]
theorem v_c : eC x σ h = .ok x h := rfl
theorem v_op2 (e1 : a σ h = .ok x h1) (e2 : b σ h1 = .ok y h2) (e3 : f x y h2 = some (z, h3)) : eOp2 f a b σ h = .ok z h3 := by unfold eOp2; rw [e1]; show Res.bind (b σ h1) _ = _; rw [e2]; show ofO _ = _; rw [e3]; rfl
theorem v_op1 (e1 : a σ h = .ok x h1) (e3 : g x h1 = some (z, h3)) : eOp1 g a σ h = .ok z h3 := by unfold eOp1; rw [e1]; show ofO _ = _; rw [e3]; rfl
theorem v_nil : evs [] σ h = .ok [] h := rfl
theorem v_cons {es : List EM} {xs : List W} (e1 : a σ h = .ok x h1) (e2 : evs es σ h1 = .ok xs h2) : evs (a :: es) σ h = .ok (x :: xs) h2 := by show Res.bind (a σ h) _ = _; rw [e1]; show Res.bind (evs es σ h1) _ = _; rw [e2]; rfl
theorem v_opN {es : List EM} {xs : List W} (e1 : evs es σ h = .ok xs h1) (e3 : k xs h1 = some (z, h3)) : eOpN k es σ h = .ok z h3 := by unfold eOpN; rw [e1]; show ofO _ = _; rw [e3]; rfl
theorem v_call {fn : Fn} {es : List EM} {xs : List W} (e1 : evs es σ h = .ok xs h1) (e3 : fn xs h1 = .ok z h3) : eCall fn es σ h = .ok z h3 := by unfold eCall; rw [e1]; exact e3
theorem v_val (e : a σ h = .ok (.bl t) h1) : cVal a σ h = .ok t h1 := by unfold cVal; rw [e]; rfl
theorem v_set (e : a σ h = .ok x h1) (e2 : sput σ i (some x) = σ1) : sSet i a σ h = .nx σ1 h1 := by unfold sSet; rw [e, ← e2]; rfl
theorem v_ret (e : a σ h = .ok x h1) : sRet a σ h = .rt x h1 := by unfold sRet; rw [e]; rfl
theorem v_seq (e1 : A σ h = .nx σ1 h1) (e2 : B σ1 h1 = r) : sSeq A B σ h = r := by unfold sSeq; rw [e1]; exact e2
theorem v_seqR (e1 : A σ h = .rt x h1) : sSeq A B σ h = .rt x h1 := by unfold sSeq; rw [e1]
theorem v_if1 (e1 : c σ h = .ok true h1) (e2 : A σ h1 = r) : sIf c A B σ h = r := by unfold sIf; rw [e1]; exact e2
theorem v_if0 (e1 : c σ h = .ok false h1) (e2 : B σ h1 = r) : sIf c A B σ h = r := by unfold sIf; rw [e1]; exact e2
theorem v_sub {q : W → W → W → AH → Option AH} {o j : EM} {u v w : W} {h4 : AH} (e1 : a σ h = .ok u h1) (e2 : o σ h1 = .ok v h2) (e3 : j σ h2 = .ok w h3) (e4 : q v w u h3 = some h4) : sSub q a o j σ h = .nx σ h4 := by
  unfold sSub; rw [e1]; show Res.toSR (o σ h1) _ _ = _; rw [e2]; show Res.toSR (j σ h2) _ _ = _; rw [e3]; show (match q v w u h3 with | some h4 => SR.nx σ h4 | none => .no) = _; rw [e4]
theorem v_fn {n kk : Nat} {ws : List W} (e0 : Nat.beq ws.length kk = true) (e1 : A (start n ws) h = .rt x h1) : callM n kk A ws h = .ok x h1 := by unfold callM; rw [e0]; dsimp only; rw [e1]
theorem v_ix {l : Nat} {ws : List W} {i : Int} {j : Nat} (e1 : h.get l = some (.lst ws)) (e2 : ixAt ws.length i = some j) (e3 : nth ws j = some x) : oIx (.ref l) (.int i) h = some (x, h) := by unfold oIx; dsimp only; rw [e1]; dsimp only; rw [e2]; dsimp only; rw [e3]
theorem v_six {l : Nat} {ws : List W} {i : Int} {j : Nat} (e1 : h.get l = some (.lst ws)) (e2 : ixAt ws.length i = some j) : oSetIx (.ref l) (.int i) x h = some (h.put l (.lst (ws.set j x))) := by unfold oSetIx; dsimp only; rw [e1]; dsimp only; rw [e2]
end
theorem FnG.tape {G : Gx} {P : Program} {w : World} {K : PySem.W.Frag} {mg : Str → Option Value} {k : Nat} {f : Addr} {fd : FuncData} {ps : List Str} {fn fn' : Fn} (F : FnG G P w K mg k f fd ps fn) (hl : ∀ ws h, fn' ws h ≠ .no → ws.length = ps.length)
    (hs : ∀ {m : Mp} {h : AH} {H : L2.Hp} {ws : List W} {vs : List L2.V} {Q : L2.VK} {E : L2.XK}, Rel G m h H → VRs G m ws vs → Sat G m E (VR G) (fn' ws h) Q → ∃ h2, Rel G m h2 H ∧ Sat G m E (VR G) (fn ws h2) Q) : FnG G P w K mg k f fd ps fn' where
  len := hl
  run := fun base A outer s H args us vs Q E m h ws hg hr tb e0 hb r R rw q => by
    obtain ⟨h2, R2, q2⟩ := hs R rw q
    exact F.run base A outer s H args us vs Q E m h2 ws hg hr tb e0 hb r R2 rw q2
end Pm
/-! PmDrop: a new object that nobody holds is forgotten. -/
namespace Pm
open PySem PySem.Spec
open L2 (V Hp HO)
variable {G : Gx} {m m1 m2 : Mp}
theorem VR.re (x : m.Le m1) (y : m.Le m2) : ∀ {w : W} {v u : V}, VR G m w v → VR G m1 w u → VR G m2 w u
  | .non, _, _, _, h => h
  | .bl _, _, _, _, h => h
  | .int _, _, _, _, h => h
  | .sym _ _ _, _, _, _, h => h
  | .txt _, _, _, _, h => h
  | .ref l, _, _, ⟨a, e, _⟩, ⟨b, e2, q⟩ => by
    rw [x.at e] at e2
    cases e2
    exact ⟨a, y.at e, q⟩
  | .ty _, _, _, _, h => h
  | .glo _, _, _, _, h => h
  | .scr, _, _, _, h => h
  | .raw _, _, _, _, h => h
theorem VRs.re (x : m.Le m1) (y : m.Le m2) : ∀ {ws : List W} {vs us : List V}, VRs G m ws vs → VRs G m1 ws us → VRs G m2 ws us
  | _, _, _, .nil, .nil => .nil
  | _, _, _, .cons a r, .cons b t => .cons (VR.re x y a b) (VRs.re x y r t)
theorem dct_re (x : m.Le m1) (y : m.Le m2) : ∀ {ks : List (Sum Int (List Nat) × W)} {vs us : List (L2.Key × V)}, Paired (fun (p : Sum Int (List Nat) × W) (q : L2.Key × V) => kof p.1 = q.1 ∧ VR G m p.2 q.2) ks vs → Paired (fun (p : Sum Int (List Nat) × W) (q : L2.Key × V) => kof p.1 = q.1 ∧ VR G m1 p.2 q.2) ks us →
    Paired (fun (p : Sum Int (List Nat) × W) (q : L2.Key × V) => kof p.1 = q.1 ∧ VR G m2 p.2 q.2) ks us
  | _, _, _, .nil, .nil => .nil
  | _, _, _, .cons a r, .cons b t => .cons ⟨b.1, VR.re x y a.2 b.2⟩ (dct_re x y r t)
theorem dtp_re (x : m.Le m1) (y : m.Le m2) : ∀ {ks : List (List Int × W)} {vs us : List (List L2.Key × V)}, Paired (fun (p : List Int × W) (q : List L2.Key × V) => p.1.map Sum.inl = q.1 ∧ VR G m p.2 q.2) ks vs → Paired (fun (p : List Int × W) (q : List L2.Key × V) => p.1.map Sum.inl = q.1 ∧ VR G m1 p.2 q.2) ks us →
    Paired (fun (p : List Int × W) (q : List L2.Key × V) => p.1.map Sum.inl = q.1 ∧ VR G m2 p.2 q.2) ks us
  | _, _, _, .nil, .nil => .nil
  | _, _, _, .cons a r, .cons b t => .cons ⟨b.1, VR.re x y a.2 b.2⟩ (dtp_re x y r t)
theorem CR.re (x : m.Le m1) (y : m.Le m2) {a : Addr} : ∀ {c : Cell} {o u : HO}, CR G m a c o → CR G m1 a c u → CR G m2 a c u
  | .lst _, _, _, ⟨vs, r, _⟩, ⟨us, s, e⟩ => ⟨us, VRs.re x y r s, e⟩
  | .tup _, _, _, ⟨vs, r, _⟩, ⟨us, s, e⟩ => ⟨us, VRs.re x y r s, e⟩
  | .dct kvs, _, _, ⟨kv, r, _⟩, ⟨ku, s, e⟩ => ⟨ku, dct_re x y r s, e⟩
  | .set _, _, _, _, h => h
  | .xd _, _, _, ⟨v, r, _⟩, ⟨u, s, e⟩ => ⟨u, VR.re x y r s, e⟩
  | .exc _ _, _, _, ⟨ad, e, _⟩, ⟨bd, e2, q⟩ => by
    rw [x.at e] at e2
    cases e2
    exact ⟨ad, y.at e, q⟩
  | .exn _, _, _, _, h => h
  | .lam _ _, _, _, _, h => h
  | .dtp kvs, _, _, ⟨kv, r, _⟩, ⟨ku, s, e⟩ => ⟨ku, dtp_re x y r s, e⟩
  | .ali _, _, _, ⟨vs, r, _⟩, ⟨us, s, e⟩ => ⟨us, VRs.re x y r s, e⟩
theorem Rel.drop {h : AH} {H H1 : Hp} {c c2 : Cell} (R : Rel G m h H) (x : m.Le m1) (R1 : Rel G m1 ((h.new c).new c2) H1) (nl : c2.isLam = false) (same : ∀ (m2 : Mp) a o, CR G m1 a c2 o → CR G m2 a c2 o) (nali : isAli (some c2) = false := by rfl) :
    ∃ g, m1.as[h.n + 1]? = some g ∧ m.Le ⟨m.as ++ [g], m1.cs⟩ ∧ Rel G ⟨m.as ++ [g], m1.cs⟩ (h.new c2) H1 := by
  have len : m1.as.length = h.n + 1 + 1 := R1.len
  have hg : h.n + 1 < m1.as.length := by omega
  obtain ⟨g, at1⟩ : ∃ g, m1.as[h.n + 1]? = some g := ⟨_, List.getElem?_eq_getElem hg⟩
  refine ⟨g, at1, ⟨List.prefix_append _ _, x.cs⟩, ?_⟩
  have le2 : m.Le ⟨m.as ++ [g], m1.cs⟩ := ⟨List.prefix_append _ _, x.cs⟩
  have old : ∀ {l a}, (m.as ++ [g])[l]? = some a → l ≠ h.n → m.as[l]? = some a := fun {l a} e hl => by
    obtain ⟨hi, _⟩ := List.getElem?_eq_some_iff.mp e
    have hi2 : l < m.as.length + 1 := by simpa using hi
    rw [List.getElem?_append_left (Nat.lt_of_le_of_ne (Nat.le_of_lt_succ hi2) fun z => hl (z.trans R.len))] at e
    exact e
  have lastg : (m.as ++ [g])[h.n]? = some g := by
    rw [← R.len]
    exact List.getElem?_concat_length
  have cg : ∃ o, H1 g = some o ∧ CR G m1 g c2 o := by
    obtain ⟨c', o, e1, e2, e3⟩ := R1.cell (h.n + 1) _ at1
    rw [AH.get_new, if_pos (show h.n + 1 = (h.new c).n from rfl)] at e1
    cases e1
    exact ⟨o, e2, e3⟩
  have cold : ∀ l a, m.as[l]? = some a → l ≠ h.n → ∃ c' o, h.get l = some c' ∧ H1 a = some o ∧ CR G ⟨m.as ++ [g], m1.cs⟩ a c' o ∧ ((h.new c).new c2).get l = h.get l := fun l a e hl => by
    have lt : l < h.n := by
      have := (List.getElem?_eq_some_iff.mp e).1
      rw [R.len] at this
      exact this
    obtain ⟨c', o, e1, e2, e3⟩ := R1.cell l a (x.at e)
    have eg : ((h.new c).new c2).get l = h.get l := by
      rw [AH.get_new, if_neg (show ¬ l = (h.new c).n from fun z => by have z2 : l = h.n + 1 := z; omega), AH.get_new, if_neg (by omega)]
    rw [eg] at e1
    obtain ⟨c0, o0, f1, _, f3⟩ := R.cell l a e
    rw [e1] at f1
    cases f1
    exact ⟨c', o, e1, e2, CR.re x le2 f3 e3, eg⟩
  refine ⟨R.pre.trans le2, by show (m.as ++ [_]).length = h.n + 1; rw [List.length_append, R.len]; rfl, R1.act, ?_, fun l a e => ?_, R1.tab, R1.scr, R1.sn, fun l a i act e hc => ?_⟩
  · exact R.nd.snoc R.len fun l hl => by
      have lt : l < h.n := by
        have := (List.getElem?_eq_some_iff.mp hl).1
        rw [R.len] at this
        exact this
      rcases R1.nd l (h.n + 1) g (x.at hl) at1 with z | z | z
      · omega
      · rw [(cold l g hl (by omega)).choose_spec.choose_spec.2.2.2] at z
        exact z
      · rw [AH.get_new, if_pos (show h.n + 1 = (h.new c).n from rfl), nali] at z
        cases z
  · have e' : (m.as ++ [g])[l]? = some a := e
    rw [AH.get_new]
    by_cases hl : l = h.n
    · rw [if_pos hl]
      rw [hl, lastg] at e'
      cases e'
      obtain ⟨o, e2, e3⟩ := cg
      exact ⟨c2, o, rfl, e2, same _ _ _ e3⟩
    · rw [if_neg hl]
      obtain ⟨c', o, e1, e2, e3, _⟩ := cold l a (old e' hl) hl
      exact ⟨c', o, e1, e2, e3⟩
  · have e' : (m.as ++ [g])[l]? = some a := e
    rw [AH.get_new] at hc
    by_cases hl : l = h.n
    · rw [if_pos hl] at hc
      cases hc
      cases nl
    · rw [if_neg hl] at hc
      obtain ⟨_, _, _, _, _, eg⟩ := cold l a (old e' hl) hl
      exact R1.lam l a i act (x.at (old e' hl)) (by rw [eg]; exact hc)
end Pm
/-! PmIn: in, not in; calls with keywords alone. -/
namespace Pm
open PySem PySem.Spec
open L2 (V Hp HO Cx Inv PE PT PA PS PSs PW TE TT TA TS St VK XK WX Ends RelV Vals upd upd_same upd_ne Takes R2 OpR CallR MtR tOp tVar Vis Gl Room Binds)
def anyI (i : Int) (l : List W) : Option Bool := match l with
  | [] => some false
  | x :: r => (match x with
    | .int j => (match small j with
      | true => (match anyI i r with
        | some b => some (ieq j i || b)
        | none => none)
      | false => none)
    | _ => none)
theorem anyIF_c (i : Int) (x : W) (r : List W) : anyIF i (x :: r) = (match x with
    | .int j => (match small j with
      | true => (match anyIF i r with
        | some b => some (ieq j i || b)
        | none => none)
      | false => none)
    | _ => none) := rfl
theorem anyIF_ok {h : AH} {i : Int} : ∀ {xs : List W} {b : Bool}, anyIF i xs = some b → ∃ ds w, rds (rd 59 h) xs = some ds ∧ SD.fits ds = some (w, 0) ∧ anyEq (.int i) ds = some b
  | [], b, e => ⟨[], 0, rfl, rfl, by cases e; unfold anyEq; rfl⟩
  | x :: r, b, e => by
    rw [anyIF_c] at e
    cases x with
    | int j =>
      dsimp only at e
      cases e1 : small j with
      | false => rw [e1] at e; cases e
      | true =>
        rw [e1] at e
        dsimp only at e
        cases e2 : anyIF i r with
        | none => rw [e2] at e; cases e
        | some t =>
          rw [e2] at e
          cases e
          obtain ⟨ds, w, h1, h2, h3⟩ := anyIF_ok (h := h) e2
          refine ⟨.int j :: ds, 21 + 1 + w, ?_, ?_, ?_⟩
          · rw [rds_c, h1]
            rfl
          · rw [SD.fits_c, small_fit e1, h2]
            rfl
          · unfold anyEq
            show (match some (ieq j i) with
              | some true => some true
              | some false => anyEq (.int i) ds
              | none => _) = _
            cases ieq j i with
            | true => rfl
            | false => exact h3
    | _ => cases e
theorem inB_eqC {h : AH} {x y : W} : inB h x y = inBC h x y := by
  cases x with
  | int i =>
    show (match small i with
    | true => (match y with
      | .ref l => (match h.get l with
        | some (.lst xs) => (match anyIF i xs with
          | some b => some b
          | none => inBC h (.int i) y)
        | _ => inBC h (.int i) y)
      | _ => inBC h (.int i) y)
    | false => inBC h (.int i) y) = _
    cases e0 : small i with
    | false => rfl
    | true =>
      cases y with
      | ref l =>
        dsimp only
        cases e1 : h.get l with
        | none => rfl
        | some c =>
          cases c with
          | lst xs =>
            dsimp only
            cases e2 : anyIF i xs with
            | none => rfl
            | some b =>
              obtain ⟨ds, w, h1, h2, h3⟩ := anyIF_ok (h := h) e2
              have hr : rd 60 h (.ref l) = some (.lst ds) := by
                rw [rd_s]
                dsimp only
                rw [e1]
                dsimp only
                rw [h1]
              have hf : (SD.lst ds).fit = some (w, 1) := by
                show (match SD.fits ds with
                  | some (w, k) => some (w, k + 1)
                  | none => none) = _
                rw [h2]
              unfold inBC
              rw [hr]
              show some b = (match SD.fit (.int i) with
                | none => none
                | some (_, k) => (match (SD.lst ds).fit with
                  | none => none
                  | some (_, k') => (match Nat.ble k 64 && Nat.ble k' 64 with
                    | true => anyEq (.int i) ds
                    | false => none)))
              rw [small_fit e0, hf]
              exact h3.symm
          | _ => rfl
      | _ => rfl
  | _ => rfl
def oIn : Op2 := fun x y h => match inB h x y with
  | some b => some (.bl b, h)
  | none => none
def oNotIn : Op2 := fun x y h => match inB h x y with
  | some b => some (.bl (!b), h)
  | none => none
section
variable {X : Cx} {G : Gx} {Z : WX} {pos : Pos}
theorem anyEq_ok (d : SD) : ∀ (es : List SD) (b : Bool), anyEq d es = some b → ((SD.gs G.ρ es).any fun z => PyData.eqv z (d.g G.ρ)) = b
  | [], b, h => by
    unfold anyEq at h
    cases h
    simp only [SD.gs, List.any_nil]
  | e :: r, b, h => by
    unfold anyEq at h
    simp only [SD.gs, List.any_cons]
    cases e1 : sdEq e d with
    | none =>
      rw [e1] at h
      dsimp only at h
      cases e2 : anyEq d r with
      | none => rw [e2] at h; cases h
      | some t =>
        rw [e2] at h
        cases t with
        | false => cases h
        | true =>
          cases h
          rw [anyEq_ok d r _ e2, Bool.or_true]
    | some t =>
      rw [e1] at h
      rw [sdEq_ok e d _ e1]
      cases t with
      | true =>
        cases h
        rfl
      | false =>
        rw [Bool.false_or]
        exact anyEq_ok d r b h
theorem inB_ok {K : PySem.W.Frag} {m : Mp} {h : AH} {H : Hp} (R : Rel G m h H) {w w' : W} {v v' : V} {b : Bool} (e : inB h w w' = some b) (r : VR G m w v) (r' : VR G m w' v') :
    ∃ d ds, L2.Dp K H v d ∧ L2.Dp K H v' (.list ds) ∧ SeqAt.shaped d = true ∧ SeqAt.shaped (.list ds) = true ∧ (ds.any fun z => PyData.eqv z d) = b := by
  rw [inB_eqC] at e
  unfold inBC at e
  cases e1 : rd 60 h w with
  | none => rw [e1] at e; cases e
  | some d =>
    rw [e1] at e
    dsimp only at e
    cases e2 : rd 60 h w' with
    | none => rw [e2] at e; cases e
    | some d' =>
      rw [e2] at e
      cases d' with
      | lst es =>
        dsimp only at e
        cases e3 : d.fit with
        | none => rw [e3] at e; cases e
        | some p =>
          obtain ⟨w1, k⟩ := p
          rw [e3] at e
          dsimp only at e
          cases e4 : (SD.lst es).fit with
          | none => rw [e4] at e; cases e
          | some p =>
            obtain ⟨w2, k'⟩ := p
            rw [e4] at e
            dsimp only at e
            cases e5 : Nat.ble k 64 && Nat.ble k' 64 with
            | false => rw [e5] at e; cases e
            | true =>
              rw [e5] at e
              obtain ⟨z1, z2⟩ := Bool.and_eq_true_iff.mp e5
              have F1 := SD.fit_ok (G := G) d _ _ e3
              have F2 := SD.fit_ok (G := G) (.lst es) _ _ e4
              have D2 := rd_ok (K := K) R _ _ _ _ e2 r'
              simp only [SD.g] at F2 D2
              exact ⟨_, _, rd_ok R _ _ _ _ e1 r, D2, Bool.and_eq_true_iff.mpr ⟨F1.lay, decide_eq_true (Nat.le_trans F1.dp (Nat.le_of_ble_eq_true z1))⟩,
                Bool.and_eq_true_iff.mpr ⟨F2.lay, decide_eq_true (Nat.le_trans F2.dp (Nat.le_of_ble_eq_true z2))⟩, anyEq_ok d es b e⟩
      | _ => cases e
theorem or_in {k : Nat} (hr : Room k X.A) : OpR X (compareOp .In) (rO G oIn) := opr_of (L2.op_inD (by have := hr.un; omega)) fun x y H Q h => by
  obtain ⟨m, h, a, b, R, ra, rb, q⟩ := h
  unfold oIn at q
  cases e : inB h a b with
  | none => rw [e] at q; exact q.elim
  | some t =>
    rw [e] at q
    obtain ⟨d, ds, h1, h2, h3, h4, rfl⟩ := inB_ok (K := X.K) R e ra rb
    exact ⟨d, ds, h1, h2, h3, h4, q m H _ (.refl m) R rfl⟩
theorem or_notIn {k : Nat} (hr : Room k X.A) : OpR X (compareOp .NotIn) (rO G oNotIn) := opr_of (L2.op_notInD (by have := hr.un; omega)) fun x y H Q h => by
  obtain ⟨m, h, a, b, R, ra, rb, q⟩ := h
  unfold oNotIn at q
  cases e : inB h a b with
  | none => rw [e] at q; exact q.elim
  | some t =>
    rw [e] at q
    obtain ⟨d, ds, h1, h2, h3, h4, rfl⟩ := inB_ok (K := X.K) R e ra rb
    exact ⟨d, ds, h1, h2, h3, h4, q m H _ (.refl m) R rfl⟩
variable {fn : Fn} {k : Nat} {f : Addr} {fd : FuncData} {ps ks : List Str} {x : Str} {p : Pos}
theorem pm_callK0 {g : List Value → List Value → List Value} {gV : List V → List V → List V} {gW : List W → List W → List W} {kws : List Keyword} {gk : List EM} (F : FnG G X.prog X.w X.K X.mg k f fd ps fn) (hgd : X.A.guards = some []) (hr : Room k X.A) (tb : Tbs G X.base X.mg) (hg : Gl X x) (hm : X.mg x = some (.ref f)) (hk : PySem.W.keepIn X.K (.ref f) = true) (hb : L2.KBinds X.K fd ps ks g gV) (tk : Takes X Z)
    (hgW : ∀ {m : Mp} {as bs : List W} {vs zs : List V}, VRs G m as vs → VRs G m bs zs → VRs G m (gW as bs) (gV vs zs))
    (hkw : L2.PK X kws (tA G Z (evs gk))) (hall : (backToKw pos (keywordEach kws X.env)).all (·.1.isSome) = true := by rfl) (hks : (backToKw pos (keywordEach kws X.env)).filterMap (·.1) = ks := by rfl)
    (hdb : (x == ("__debug__" : Str)) = false := by decide) (hpl : ((backTo pos (starEach [] X.env)).any (·.1) || (backToKw pos (keywordEach kws X.env)).any (·.1.isNone)) = false := by rfl) :
    PE X (.Call (.Name x p) [] kws pos) (tE G Z (eCallK fn gW [] gk)) := by
  refine ⟨fun pins s σ H Q I h => wpAny_Call_Name_kw (L2.ld_glob I hg hm ?_ hdb)⟩
  obtain ⟨m, h, sl, R, S, q⟩ := h
  refine PySem.W.callWith_KW0 (h₀ := X.base) I.ok.mod.kin hk hall (L2.thn (hkw.run pos pins s σ H _ I ⟨m, h, sl, R, S, (Sat.bind (R := VRs G) q)⟩) fun us2 s2 ⟨zs, H2, I2, rz, m2, bs, h2, l2, R2, rb, q2⟩ => ?_) hpl
  rw [hks]
  exact ⟨I2.kIn, ret_call (run_fg F hgd hr tb tk I2 (fun hl => hb.to s2 [] us2 I2.kIn hl) (hb.rel .nil rz) R2 (hgW .nil rb) q2)⟩
theorem pm_globE {i : Int} (hg : Gl X x) (hm : ∃ t, X.mg x = some (.int i t)) (hd : (x == ("__debug__" : Str)) = false := by decide) : PE X (.Name x pos) (tE G Z (eC (.int i))) := let ⟨_, h⟩ := hm; pm_globi hg h hd
theorem raiseE {c : Nat} {e : Expr} {ge : EM} {p2 : Pos} (T : ∃ fI qual, PySem.TieX.TieTxt X.prog X.K (G.ga c) fI qual) (hsup : X.mg "super" = none) (C : ClsF X.K (G.ga c)) (hcalm : X.calm = true) (tk : Takes X Z) (hr : Room k X.A) (hg : Gl X x) (hm : X.mg x = some (.ref (G.ga c))) (ha : PE X e (tE G Z ge)) (hdb : (x == ("__debug__" : Str)) = false := by decide)
    (he : starEach [e] X.env = (false, eval e X.env) :: starEach [] X.env := by rfl) : PS X (.Raise (some (.Call (.Name x p) [e] [] pos)) none p2) (tS G Z (sRaise (mMk c ge))) := let ⟨_, _, T⟩ := T; pms_raise T hsup C.e.hs C.ty hcalm tk hr hg hm ha hdb he
end
end Pm
/-! PmMisc: list(range(..)). -/
namespace Pm
open PySem PySem.Spec
open L2 (V Hp HO Cx Inv PE PT PA PS PSs PW TE TT TA TS St VK XK WX Ends RelV Vals upd upd_same upd_ne Takes R2 OpR CallR MtR tOp tVar Vis Gl Room Binds)
section
variable {X : Cx} {G : Gx} {Z : WX} {pos : Pos}
def rngW : Int → Nat → List W
  | _, 0 => []
  | a, n + 1 => .int a :: rngW (a + 1) n
def oLr : Op2 := fun x y h => match x, y with
  | .int a, .int b => (match smallI a && (smallI b && Nat.ble (b - a).toNat 1000000) with
    | true => some (.ref h.n, h.new (.lst (rngW a (b - a).toNat)))
    | false => none)
  | _, _ => none
theorem rngW_ok {m : Mp} : ∀ (n : Nat) (a : Int), VRs G m (rngW a n) ((List.range n).map fun i => V.int (a + (i : Nat)))
  | 0, _ => .nil
  | n + 1, a => by
    rw [List.range_succ_eq_map, List.map_cons, List.map_map]
    have e : ((fun i : Nat => V.int (a + (i : Nat))) ∘ Nat.succ) = fun i : Nat => V.int (a + 1 + (i : Nat)) := funext fun i => congrArg V.int (by
      show a + ((i + 1 : Nat) : Int) = a + 1 + i
      omega)
    rw [e]
    exact .cons (congrArg V.int (by omega)) (rngW_ok n (a + 1))
theorem lr_read {m : Mp} {h : AH} {H : Hp} {Q : VK} {E : XK} {a b : Int} (R : Rel G m h H) (q : Sat G m E (VR G) (ofO (oLr (.int a) (.int b) h)) Q) : L2.RgOk a b ∧ ∀ p, H p = none → Q (.ref p) (upd H p (.lst (L2.rgV a b))) := by
  unfold oLr at q
  dsimp only at q
  cases e : smallI a && (smallI b && Nat.ble (b - a).toNat 1000000) with
  | false =>
    rw [e] at q
    exact q.elim
  | true =>
    rw [e] at q
    obtain ⟨z1, z2⟩ := Bool.and_eq_true_iff.mp e
    obtain ⟨z2, z3⟩ := Bool.and_eq_true_iff.mp z2
    have z3' := Nat.le_of_ble_eq_true z3
    unfold smallI at z1 z2
    rw [ilt_iff, ilt_iff] at z1 z2
    simp only [Bool.and_eq_true, decide_eq_true_eq] at z1 z2
    refine ⟨⟨by omega, by omega, by omega, by omega, by omega⟩, fun p np => new_sat (c := .lst (rngW a (b - a).toNat)) R np ⟨_, rngW_ok _ _, rfl⟩ q⟩
theorem pm_lr2 {a b : Expr} {ga gb : EM} {p p2 pos2 : Pos} (hc : X.calm = true) (hg : Gl X "list") (hm : X.mg "list" = none) (hg2 : Gl X "range") (hm2 : X.mg "range" = none) (ha : PE X a (tE G Z ga)) (hb : PE X b (tE G Z gb))
    (na : starEach [.Call (.Name "range" p2) [a, b] [] pos2] X.env = (false, eval (.Call (.Name "range" p2) [a, b] [] pos2) X.env) :: starEach [] X.env := by rfl)
    (n1 : starEach (a :: [b]) X.env = (false, eval a X.env) :: starEach [b] X.env := by rfl) (n2 : starEach [b] X.env = (false, eval b X.env) :: starEach [] X.env := by rfl) (hp : (backTo pos2 (starEach [b] X.env)).any (·.1) = false := by rfl) :
    PE X (.Call (.Name "list" p) [.Call (.Name "range" p2) [a, b] [] pos2] [] pos) (tE G Z (eOp2 oLr ga gb)) :=
  pe_of (L2.pe_listRg hc hg hm (L2.prg_2 hg2 hm2 ha hb n1 n2 hp) na) fun σ H Q h => by
    obtain ⟨m, h, s, R, S, q⟩ := h
    refine ⟨m, h, s, R, S, (Sat.bind (R := VR G) q).imp fun x H1 z => ?_⟩
    obtain ⟨m1, w, h1, l1, R1, ra, q1⟩ := z
    refine ⟨m1, h1, s, R1, S.mono l1, (Sat.bind (R := VR G) q1).imp fun y H2 z => ?_⟩
    obtain ⟨m2, w2, h2, l2, R2, rb, q2⟩ := z
    have ra' := ra.mono l2
    cases w with
    | int i =>
      cases w2 with
      | int j =>
        cases ra'
        cases rb
        exact ⟨i, j, rfl, rfl, lr_read R2 q2⟩
      | _ => exact q2.elim
    | _ => exact q2.elim
theorem pm_lr1 {a : Expr} {ga : EM} {p p2 pos2 : Pos} (hc : X.calm = true) (hg : Gl X "list") (hm : X.mg "list" = none) (hg2 : Gl X "range") (hm2 : X.mg "range" = none) (ha : PE X a (tE G Z ga))
    (na : starEach [.Call (.Name "range" p2) [a] [] pos2] X.env = (false, eval (.Call (.Name "range" p2) [a] [] pos2) X.env) :: starEach [] X.env := by rfl)
    (n1 : starEach [a] X.env = (false, eval a X.env) :: starEach [] X.env := by rfl) :
    PE X (.Call (.Name "list" p) [.Call (.Name "range" p2) [a] [] pos2] [] pos) (tE G Z (eOp2 oLr (eC (.int 0)) ga)) :=
  pe_of (L2.pe_listRg hc hg hm (L2.prg_1 hg2 hm2 ha n1) na) fun σ H Q h => by
    obtain ⟨m, h, s, R, S, q⟩ := h
    have q' : Sat G m (fun c d H => Z c d σ H) (VR G) ((ga s h).bind fun y h2 => ofO (oLr (.int 0) y h2)) Q := q
    refine ⟨m, h, s, R, S, (Sat.bind (R := VR G) q').imp fun x H1 z => ?_⟩
    obtain ⟨m1, w, h1, l1, R1, ra, q1⟩ := z
    cases w with
    | int i =>
      cases ra
      exact ⟨i, rfl, lr_read R1 q1⟩
    | _ => exact q1.elim
/-! ### i << j -/
def oShl : Op2 := fun x y h => match x, y with
  | .int i, .int j => (match ile 0 j && ile ((Builtin.Int.intBits i : Int) + j) 134217728 with
    | true => some (.int (i * 2 ^ j.toNat), h)
    | false => none)
  | _, _ => none
theorem or_shl : OpR X (binaryOp .LShift) (rO G oShl) := opr_of L2.op_shlW fun x y H Q h => by
  obtain ⟨m, h, a, b, R, ra, rb, q⟩ := h
  unfold oShl at q
  cases a with
  | int i =>
    cases b with
    | int j =>
      cases ra
      cases rb
      dsimp only at q
      cases e : ile 0 j && ile ((Builtin.Int.intBits i : Int) + j) 134217728 with
      | false =>
        rw [e] at q
        exact q.elim
      | true =>
        rw [e] at q
        obtain ⟨z1, z2⟩ := Bool.and_eq_true_iff.mp e
        rw [ile_iff] at z1 z2
        exact ⟨i, j, rfl, rfl, ⟨of_decide_eq_true z1, of_decide_eq_true z2⟩, q m H _ (.refl m) R rfl⟩
    | _ => exact q.elim
  | _ => exact q.elim
end
end Pm
/-! PmTry: try, except X as e: the caught error is tracked from then on. -/
namespace Pm
open PySem PySem.Spec PySem.W
open L2 (V Hp HO Cx Inv PE PT PA PS PSs PW TE TT TA TS St VK XK WX Ends RelV Vals upd upd_same upd_ne Takes R2 OpR CallR MtR tOp tVar Vis Gl Room Binds frs Zc)
section
variable {X : Cx} {pins : List (Addr × Obj)} {σ : St} {H : Hp} {s : Shared}
theorem track {a : Addr} {o : HO} {oe : Obj} {vs : Array Value} (I : Inv X pins σ H s) (h0 : X.s_0.heap.get? a = none) (hn : H a = none) (ha : s.heap.get? a = some oe) (hd : oe.data = .fields vs) (nL : a ≠ X.env.locals) (hp : ∀ p ∈ X.pn ++ pins, p.1 ≠ a) (ok : L2.ObjOk X.prog X.w (upd H a o) s.heap a o) :
    Inv X pins σ (upd H a o) s where
  ok := I.ok
  os := I.os
  bare := I.bare
  base := {
    keep := I.base.keep
    slot := I.base.slot
    free := fun b o' e n hx => by
      rw [upd_ne (fun z => by rw [z, h0] at e; cases e)]
      exact I.base.free b o' e n hx
    there := I.base.there
    tups := fun b xs e => by
      have z := I.base.tups b xs e
      rw [upd_ne (L2.ne_of_none z hn)]
      exact z
    frzs := fun b o' u e => by
      have z := I.base.frzs b o' u e
      rw [upd_ne (L2.ne_of_none z hn)]
      exact z
    tbls := fun b ps e => by
      obtain ⟨m, z⟩ := I.base.tbls b ps e
      exact ⟨m, by rw [upd_ne (L2.ne_of_none z hn)]; exact z⟩ }
  loc := I.loc
  cell := I.cell
  free := by rw [upd_ne (Ne.symm nL)]; exact I.free
  freeC := fun x c e => by
    obtain ⟨v, oc, e1, e2⟩ := I.cell x c e
    rw [upd_ne (fun z => by rw [z, ha] at e1; cases e1; rw [hd] at e2; cases e2)]
    exact I.freeC x c e
  pin := fun p h => by
    obtain ⟨q1, q2, q3⟩ := I.pin p h
    exact ⟨q1, by rw [upd_ne (hp p h)]; exact q2, q3⟩
  hok := I.hok.laidN (fun _ _ e => e) hn ok
  len := I.len
theorem suiteI (I : Inv X pins σ H s) (a : Addr) : Inv (X.suite a (X.pn ++ pins)) [] σ H s := ⟨I.ok.suite _ _, I.os, I.bare, I.base, I.loc, I.cell, I.free, I.freeC, fun p h => I.pin p (by rw [List.append_nil] at h; exact h), I.hok, I.len⟩
theorem unsuiteI {a : Addr} {pn' : List (Addr × Obj)} (I : Inv (X.suite a (X.pn ++ pins)) pn' σ H s) (ok : X.Ok) : Inv X pins σ H s := ⟨ok, I.os, I.bare, I.base, I.loc, I.cell, I.free, I.freeC, fun p h => I.pin p (List.mem_append_left _ h), I.hok, I.len⟩
def wTr (K : PySem.W.Frag) (c : Value) (i : Nat) (ts : TS) (Wout : WX) (D : Ends) : WX := fun cls d σ H => ∃ b, exmOne K cls c = some b ∧
  (b = true → ∀ a, H a = none → ts { nx := fun σ' H' => D.nx (σ'.set i none) H', rt := D.rt, bk := fun σ' H' => D.bk (σ'.set i none) H', ct := fun σ' H' => D.ct (σ'.set i none) H' } (σ.set i (some (.ref a))) (upd H a (ExcO cls d a))) ∧ (b = false → Wout cls d σ H)
end
section
variable {X : Cx} {x n : Str} {c : Value} {i : Nat} {body suite : List Stmt} {b₀ : Stmt} {np pos pos' : Pos} {tb : WX → TS} {ts : TS} {Wout : WX}
theorem ps_try_tr (hs : X.stack = X.env :: X.outer) (hf : X.env.frame = some X.env.locals) (hex : X.ex = []) (hN : X.N.Nodup) (hi : X.N[i]? = some n) (hln : X.env.kindOf n = some .local) (hc : L2.Names X x c) (tk : Takes X Wout)
    (hb : ∀ (W : WX) (pn : List (Addr × Obj)) (xe : Value → Shared → Prop), Takes (X.tr pn xe) W → PassesOwn (model X.prog X.w) X.A X.env xe → PSs (X.tr pn xe) body (tb W)) (hsu : ∀ (a : Addr) (pn : List (Addr × Obj)), PSs (X.suite a pn) (b₀ :: suite) ts) :
    PS X (.Try body [.ExceptHandler (some (.Name x np)) (some n) (b₀ :: suite) pos'] [] [] pos) (fun D σ H => tb (wTr X.K c i ts Wout D) D σ H) := by
  refine ⟨fun pins s σ H D I h => ?_⟩
  have ok := I.ok
  have hfr : X.A.frames = some (X.env :: X.outer) := ok.frames.trans (congrArg some hs)
  refine wpAny_Try_except (wpAny_mono ((hb (wTr X.K c i ts Wout D) (X.pn ++ pins) (fun e s₁ => wpAny (model X.prog X.w) X.A (noteFrame e X.env) (fun _ s₂ => wpAny (model X.prog X.w) X.A (setFlight e none) (fun _ s₃ =>
    wpAny (model X.prog X.w) X.A (handleBy e X.env [.ExceptHandler (some (.Name x np)) (some n) (b₀ :: suite) pos']) (L2.SP X pins D) X.xe s₃) X.xe s₂) X.xe s₁) (fun u s' xx => ?_) PassesOwn.looking).run [] s σ H D (I.toTry _) h) (fun f s1 hsp => ?_) (fun e s1 he => he))
  · obtain ⟨a, B, sI, pins', σ', H', cls, d, rfl, J', nb, up, sky, na, os, ag, b, hb1, hyes, hno⟩ := xx
    have J : Inv X pins σ' H' sI := J'.ofTry ok
    have sky' : L2.Sky B (X.env :: X.outer) a (Zc cls d) X.env.locals s'.heap := hs ▸ sky
    show wpAny _ X.A (noteFrame (.ref a) X.env) _ _ _
    refine L2.Sky.land Zc.steady hfr hf sky' fun h3 fl3 up3 => ?_
    have J3 : Inv X pins σ' H' { s' with heap := h3 } := J.landed nb fl3.1 (up.trans up3) os ag
    obtain ⟨oe3, vs3, he3, hz3, hd3⟩ := fl3.there
    have nfr : a ∉ frs (X.env :: X.outer) := fun hm => by
      obtain ⟨_, o', e', hnf⟩ := fl3.2.2.1.mem hm
      rw [he3] at e'; cases e'
      exact hnf _ hd3
    have gI : sI.heap.get? a = none := by
      cases e : sI.heap.get? a with
      | none => rfl
      | some o =>
        have z := nb a o e (by rw [hs]; exact nfr)
        rw [fl3.2.1] at z
        cases z
    have g0 : X.s_0.heap.get? a = none := by
      cases e : X.s_0.heap.get? a with
      | none => rfl
      | some o =>
        obtain ⟨o', z⟩ := J.base.there a o e (by rw [hex]; exact fun z => nomatch z)
        rw [gI] at z
        cases z
    have nL : a ≠ X.env.locals := fun z => nfr (List.mem_filterMap.mpr ⟨X.env, List.mem_cons_self, by rw [hf, z]⟩)
    have hpn : ∀ p ∈ X.pn ++ pins, p.1 ≠ a := fun p hp z => by
      have q := (J.pin p hp).1
      rw [z, gI] at q
      cases q
    have tst : ∀ {Q : Value → Shared → Prop} {E : Value → Shared → Prop}, Q c { s' with heap := h3 } → wpAny (model X.prog X.w) (X.A.mark (some (.ref a))) (eval (.Name x np) X.env) Q E { s' with heap := h3 } := fun {Q E} q => by
      obtain ⟨hg, hdbg, hm | ⟨hm, hv, hnn⟩⟩ := hc
      · exact L2.ld_glob (X := X.suite a (X.pn ++ pins)) (suiteI J3 a) hg hm q hdbg
      · exact L2.ld_blt (X := X.suite a (X.pn ++ pins)) (suiteI J3 a) hg hm hv q hnn hdbg
    have LT : PySem.W.Looks (model X.prog X.w) h3 (typeOf (.ref a)) cls := fun A Q E s k q => wpAny_typeOf_ref (k _ _ he3) (by rw [hz3.1]; exact q)
    refine wpAny_handleBy_cons (codeAny_handlers_test (tst ((PySem.W.exm_one (M := model X.prog X.w) J3.kIn LT hb1).here ?_))) (by intro q; cases q)
    cases b with
    | true =>
      refine codeAny_handlers_suite_as (HandSPX.lands_againZ fl3 fun h4 fl4 up4 => ?_)
      have J4 : Inv X pins σ' H' { s' with heap := h4 } := J.landed nb fl4.1 ((up.trans up3).trans up4) os ag
      obtain ⟨oe4, vs4, he4, hz4, hd4⟩ := fl4.there
      have S4 := track (X := X.suite a (X.pn ++ pins)) (o := ExcO cls d a) (suiteI J4 a) g0 na he4 hd4 nL (fun p hp => hpn p (by rw [List.append_nil] at hp; exact hp)) (excO_ok he4 hz4 hd4)
      refine L2.store_ok (X := X.suite a (X.pn ++ pins)) (v := .ref a) S4 hN hi (.inl hln) rfl (fun s5 S5 => ?_) (.inr hln)
      refine wpAny_mono ((hsu a (X.pn ++ pins)).run [] s5 _ _ _ S5 (hyes rfl a na)) (fun f s6 hsp => ?_) (fun _ _ z => False.elim z)
      have fin : ∀ {σ6 : St} {H6 : Hp} {Q : Shared → Prop}, Inv (X.suite a (X.pn ++ pins)) [] σ6 H6 s6 → (∀ s7, Inv X pins (σ6.set i none) H6 s7 → Q s7) → wpAny (model X.prog X.w) X.A (do bindName X.env n .none; unbindBehindTheSuite X.env n pos') (fun _ s7 => Q s7) X.xe s6 := fun S6 hq => L2.gone_ok (unsuiteI S6 ok) hN hi hln hq
      cases f with
      | next => obtain ⟨σ6, H6, S6, q6⟩ := hsp; exact fin S6 fun s7 J7 => ⟨_, _, J7, q6⟩
      | brk => obtain ⟨σ6, H6, S6, q6⟩ := hsp; exact fin S6 fun s7 J7 => ⟨_, _, J7, q6⟩
      | cont => obtain ⟨σ6, H6, S6, q6⟩ := hsp; exact fin S6 fun s7 J7 => ⟨_, _, J7, q6⟩
      | ret u => obtain ⟨v6, σ6, H6, S6, r6, q6⟩ := hsp; exact fin S6 fun s7 J7 => ⟨_, _, _, J7, r6, q6⟩
    | false =>
      show wpAny _ X.A (handleBy (.ref a) X.env []) _ _ _
      refine wpAny_handleBy_nil ?_
      obtain ⟨k1, k2, k3, oe, vs, T, oT, ts', he, hz, hd, h1, hr⟩ := id fl3
      have fin : wpAny (model X.prog X.w) X.A (setFlight (.ref a) X.env.frame) (fun _ s4 => wpAny (model X.prog X.w) X.A (throw (.ref a) : Sem Flow) (L2.SP X pins D) X.xe s4) X.xe { s' with heap := h3 } := by
        rw [hf]
        exact HandSPX.setFlight_upZ fl3 fun h4 hh4 up4 => wpAny_throw (tk _ _ ⟨a, B, sI, pins, σ', H', cls, d, rfl, J, nb, (up.trans up3).trans up4, .inr (.inr (by rw [hs]; exact hh4)), na, os, ag, hno rfl⟩)
      unfold PySem.passOn
      refine wpAny_bind (wpAny_field he hd h1 ?_)
      rw [if_neg (show ¬ ((Value.ref T == Value.none) = true) from by simp)]
      first | exact wpAny_bind (wpAny_pure (wpAny_bind fin)) | exact wpAny_bind fin
  · cases f with
    | next => obtain ⟨σ', H', J', q⟩ := hsp; exact wpAny_execs_nil ⟨σ', H', J'.ofTry ok, q⟩
    | brk => obtain ⟨σ', H', J', q⟩ := hsp; exact ⟨σ', H', J'.ofTry ok, q⟩
    | cont => obtain ⟨σ', H', J', q⟩ := hsp; exact ⟨σ', H', J'.ofTry ok, q⟩
    | ret u => obtain ⟨v, σ', H', J', r, q⟩ := hsp; exact ⟨v, σ', H', J'.ofTry ok, r, q⟩
end
/-! ### the meaning -/
section
variable {X : Cx} {G : Gx} {Z : WX} {x n : Str} {cv : Value} {i : Nat} {body suite : List Stmt} {b₀ : Stmt} {np pos pos' : Pos} {gb gs : SM}
theorem pms_try {hit : Nat → Option Bool} (hs : X.stack = X.env :: X.outer) (hf : X.env.frame = some X.env.locals) (hex : X.ex = []) (hN : X.N.Nodup) (hi : X.N[i]? = some n) (hln : X.env.kindOf n = some .local) (hc : L2.Names X x cv) (tk : Takes X Z) (hh : ∀ c b, hit c = some b → exmOne X.K (.ref (G.ga c)) cv = some b)
    (hb : ∀ (W : WX) (pn : List (Addr × Obj)) (xe : Value → Shared → Prop), Takes (X.tr pn xe) W → PassesOwn (model X.prog X.w) X.A X.env xe → PSs (X.tr pn xe) body (tS G W gb)) (hsu : ∀ (a : Addr) (pn : List (Addr × Obj)), PSs (X.suite a pn) (b₀ :: suite) (tS G Z0 gs)) :
    PS X (.Try body [.ExceptHandler (some (.Name x np)) (some n) (b₀ :: suite) pos'] [] [] pos) (tS G Z (sTry gb hit i gs)) :=
  ps_of (ps_try_tr hs hf hex hN hi hln hc tk hb hsu) fun D σ H h => by
    obtain ⟨m, h, s, R, S, q⟩ := h
    refine ⟨m, h, s, R, S, ?_⟩
    unfold sTry at q
    cases e : gb s h with
    | exc c d s1 h1 =>
      rw [e] at q
      dsimp only at q
      intro m' σ' H' ad le R' S' ea
      cases e2 : hit c with
      | none =>
        rw [e2] at q
        exact q.elim
      | some b =>
        rw [e2] at q
        refine ⟨b, hh c b e2, fun eb a na => ?_, fun eb => ?_⟩
        · subst eb
          dsimp only at q
          have R1 := R'.new (c := .exc c d) na ⟨ad, (m'.le_snoc a).at ea, rfl⟩
          have at1 : (m'.snoc a).as[h1.n]? = some a := by
            show (m'.as ++ [a])[h1.n]? = some a
            rw [← R'.len]
            exact List.getElem?_concat_length
          refine ⟨m'.snoc a, h1.new (.exc c d), sput s1 i (some (.ref h1.n)), R1, SlR.put (a := some (.ref h1.n)) (v := some (.ref a)) ⟨_, rfl, a, at1, rfl⟩ i (S'.mono (m'.le_snoc a)), ?_⟩
          have lz := le.trans (m'.le_snoc a)
          cases e3 : gs (sput s1 i (some (.ref h1.n))) (h1.new (.exc c d)) with
          | nx s2 h2 =>
            rw [e3] at q
            exact fun m2 σ2 H2 l2 R2 S2 => q m2 _ H2 (lz.trans l2) R2 (SlR.put (a := none) (v := none) trivial i S2)
          | bk s2 h2 =>
            rw [e3] at q
            exact fun m2 σ2 H2 l2 R2 S2 => q m2 _ H2 (lz.trans l2) R2 (SlR.put (a := none) (v := none) trivial i S2)
          | ct s2 h2 =>
            rw [e3] at q
            exact fun m2 σ2 H2 l2 R2 S2 => q m2 _ H2 (lz.trans l2) R2 (SlR.put (a := none) (v := none) trivial i S2)
          | rt v h2 =>
            rw [e3] at q
            exact fun m2 H2 v2 l2 R2 r2 => q m2 H2 v2 (lz.trans l2) R2 r2
          | exc _ _ _ _ =>
            rw [e3] at q
            exact q.elim
          | no =>
            rw [e3] at q
            exact q.elim
        · subst eb
          exact q m' σ' H' ad le R' S' ea
    | nx _ _ => rw [e] at q; exact q
    | rt _ _ => rw [e] at q; exact q
    | bk _ _ => rw [e] at q; exact q
    | ct _ _ => rw [e] at q; exact q
    | no => rw [e] at q; exact q.elim
end
/-! ### which classes a clause takes -/
def exmB (K : PySem.W.Frag) (cs : List Addr) (n : Nat) (anc : Nat → List Nat) : Bool := (List.range n).all fun a => (List.range n).all fun b => decide (exmOne K (.ref (gaOf cs a)) (.ref (gaOf cs b)) = some ((anc a).elem b))
theorem exmB_ok {K : PySem.W.Frag} {cs : List Addr} {n : Nat} {anc : Nat → List Nat} (h : exmB K cs n anc = true) : ∀ a < n, ∀ b < n, exmOne K (.ref (gaOf cs a)) (.ref (gaOf cs b)) = some ((anc a).elem b) := fun a ha b hb =>
  of_decide_eq_true (List.all_eq_true.mp (List.all_eq_true.mp h a (List.mem_range.mpr ha)) b (List.mem_range.mpr hb))
theorem hitC_ok {K : PySem.W.Frag} {ga : Nat → Addr} {n : Nat} {anc : Nat → List Nat} (h : ∀ a < n, ∀ b < n, exmOne K (.ref (ga a)) (.ref (ga b)) = some ((anc a).elem b)) {t : Nat} (ht : t < n) (c : Nat) (b : Bool) (e : hitC n anc t c = some b) : exmOne K (.ref (ga c)) (.ref (ga t)) = some b := by
  unfold hitC at e
  cases z : Nat.blt c n with
  | false => rw [z] at e; cases e
  | true =>
    rw [z] at e
    cases e
    rw [memN_ok]
    exact h c (Nat.le_of_ble_eq_true z) t ht
end Pm
/-! PmClo: lambdas: their objects, what they mean, calls of what a local holds. -/
namespace Pm
open PySem PySem.Spec PySem.W
open L2 (V Hp HO Cx Inv PE PT PA PS PSs PW TE TT TA TS St VK XK WX Ends RelV Vals upd upd_same upd_ne Takes R2 OpR CallR MtR tOp tVar Vis Gl Room Binds frs cloFrom)
open LamX (CodeO Tabs TabS TabB ExtN)
open NdefX (NF CellsAt NScope ncx startF envF slotAt inv_startN cells_of Caps)

/-! ### the object -/
theorem lamO_at {P : Program} {w : World} {H : Hp} {h : Heap} {f : Addr} {F : NF} {e : Expr} (hok : L2.HOk P w H h) (q : H f = some (LamO f F e)) : ∃ (pm ctv : Value), h.get? f = some (kla_obj "<lambda>" F.qual F.params e F.scope F.cl pm F.c ctv) := (hok f _ q).1
theorem lamO_fn {P : Program} {w : World} {H : Hp} {h : Heap} {f : Addr} {F : NF} {e : Expr} (hok : L2.HOk P w H h) (q : H f = some (LamO f F e)) : FnAt f h := let ⟨_, _, z⟩ := lamO_at hok q; ⟨_, _, _, _, z⟩
section
variable {X : Cx} {pins : List (Addr × Obj)} {σ : L2.St} {H : Hp} {s : Shared}
theorem inv_lam {F : NF} {e : Expr} {t' : Nat} {pm ctv : Value} (I : Inv X pins σ H s) :
    Inv X pins σ (upd H s.heap.objs.size (LamO s.heap.objs.size F e)) { s with heap := s.heap.push (kla_obj "<lambda>" F.qual F.params e F.scope F.cl pm F.c ctv), toks := t' } :=
  I.laid (a := s.heap.objs.size) (fun b u q => Heap.get?_push_of_some _ q) (Nat.le_refl _) (by
    have z : (s.heap.push (kla_obj "<lambda>" F.qual F.params e F.scope F.cl pm F.c ctv)).get? s.heap.objs.size = some (kla_obj "<lambda>" F.qual F.params e F.scope F.cl pm F.c ctv) := Heap.get?_push_size _ rfl
    exact ⟨⟨pm, ctv, z⟩, ⟨_, z⟩, fun h1 h2 ⟨p, t, q⟩ st => ⟨p, t, st _ q⟩⟩)
theorem lam_made {T : List (Addr × Str)} {c P : Addr} {params : Arguments} {body : Expr} {scope : Scope} {pos : Pos} {E : Value → Shared → Prop} {Q : Value → Shared → Prop} (I : Inv X pins σ H s) (TB : TabB X.base X.mg c P) (hcode : X.env.code = .ref c)
    (hm : (P, X.env.qual ++ "<lambda>") ∈ T) (hu : ∀ p ∈ T, p.1 = P → p.2 = X.env.qual ++ "<lambda>") (hT : Tabs T H) (hdef : defaultsOf params X.env = ([], [])) (hfree : ∀ y ∈ scope.names, y.2 = .free → ∃ c, X.env.cells.lookup y.1 = some c)
    (go : ∀ (f c' : Addr) (H1 : Hp) (s' : Shared), Inv X pins σ H1 s' → ExtN H H1 → Tabs T H1 → H f = none →
      H1 f = some (LamO f ⟨"<lambda>", X.env.qual ++ "<lambda>", params, [], scope, cloFrom X.env.cells scope.names [], c'⟩ body) → H1 c' = some (CodeO c' (X.env.qual ++ "<lambda>")) → Q (.ref f) s') :
    wpAny (model X.prog X.w) X.A (eval (.Lambda params body scope pos) X.env) Q E s := by
  obtain ⟨ps, tP, triples, amongs⟩ := hT _ hm
  have blt : s.heap.BuiltinsAt X.mg P := TB.bm.keeps I.bk
  have oP : s.heap.get? P = some { cls := .none, data := .fields ps } := I.hok P _ tP
  refine kla_eval hdef ?_
  rcases ec : codeAmong pos ps.toList with _ | cv
  · refine kla_makeFunction (ps := ps) (L2.closure_ok hfree) I.ok.glob (I.mod.glob.keeps I.bk) hcode (TB.code.keeps I.bk) oP triples ec TB.gP blt fun c' ctv h' tk ext lo hi rec tb => ?_
    obtain ⟨_, oc, vs, t, ⟨⟩, r1, r2, r3⟩ := rec
    have freeC : H c' = none := I.hok.fresh lo
    let H1 := upd (upd H P (.tbl (ps ++ #[rawInt pos.line, rawInt pos.col, .ref c']))) c' (CodeO c' (X.env.qual ++ "<lambda>"))
    have J := LamX.inv_table (t' := tk) (more := #[rawInt pos.line, rawInt pos.col, .ref c']) (h' := h') I tP (fun b o nb q => ext b o nb q) tb lo ⟨oc, vs, t, r1, r2, r3⟩
    have freeF : H1 h'.objs.size = none := J.hok.fresh (Nat.le_refl _)
    have J2 := inv_lam (F := ⟨"<lambda>", X.env.qual ++ "<lambda>", params, [], scope, cloFrom X.env.cells scope.names [], c'⟩) (e := body) (t' := tk) (pm := (X.mg "__name__").getD .none) (ctv := ctv) J
    have ex1 : ExtN H H1 := fun b o q n => by
      show upd (upd H P _) c' _ b = _
      rw [upd_ne (L2.ne_of_none q freeC), upd_ne fun z => n ps (Option.some.inj (q.symm.trans (by rw [z]; exact tP)))]
      exact q
    have tT : Tabs T H1 := fun p hp => by
      by_cases isP : p.1 = P
      · have rows : (ps ++ #[rawInt pos.line, rawInt pos.col, Value.ref c']).toList = ps.toList ++ [rawInt pos.line, rawInt pos.col, .ref c'] := by simp
        rw [hu p hp isP, isP]
        refine ⟨_, (upd_ne (L2.ne_of_none tP freeC)).trans upd_same, rows ▸ PySem.TriplesOk_snoc _ _ _ _ triples, fun pos2 cv2 q => ?_⟩
        rw [rows] at q
        rcases LamX.among_app _ triples q with z | z
        · obtain ⟨c0, e1, e2⟩ := amongs pos2 cv2 z
          exact ⟨c0, e1, ex1 _ _ e2 LamX.codeO_ne⟩
        · exact ⟨c', z, upd_same⟩
      · obtain ⟨ps2, t1, t2, t3⟩ := hT p hp
        exact ⟨ps2, (upd_ne (L2.ne_of_none t1 freeC)).trans ((upd_ne isP).trans t1), t2, fun pos2 cv2 q => let ⟨c0, e1, e2⟩ := t3 pos2 cv2 q; ⟨c0, e1, ex1 _ _ e2 LamX.codeO_ne⟩⟩
    exact go h'.objs.size c' _ _ J2 (fun b o q n => (upd_ne (L2.ne_of_none (ex1 b o q n) freeF)).trans (ex1 b o q n)) (tT.ext fun b o q => (upd_ne (L2.ne_of_none q freeF)).trans q) (I.hok.fresh (Nat.le_trans lo (Nat.le_of_lt hi))) upd_same ((upd_ne (Nat.ne_of_lt hi)).trans upd_same)
  · obtain ⟨c', rfl, known⟩ := amongs pos cv ec
    refine kla_makeFunctionHit (ps := ps) (L2.closure_ok hfree) I.ok.glob (I.mod.glob.keeps I.bk) hcode (TB.code.keeps I.bk) oP triples ec blt fun ctv h' tk ext sz => ?_
    have J : Inv X pins σ H { s with heap := h', toks := tk } := I.kept ext
    have freeF : H h'.objs.size = none := J.hok.fresh (Nat.le_refl _)
    have J2 := inv_lam (F := ⟨"<lambda>", X.env.qual ++ "<lambda>", params, [], scope, cloFrom X.env.cells scope.names [], c'⟩) (e := body) (t' := tk) (pm := (X.mg "__name__").getD .none) (ctv := ctv) J
    exact go h'.objs.size c' _ _ J2 (fun b o q n => (upd_ne (L2.ne_of_none q freeF)).trans q) (hT.ext fun b o q => (upd_ne (L2.ne_of_none q freeF)).trans q) freeF upd_same ((upd_ne (L2.ne_of_none known freeF)).trans known)
end

/-! ### another start -/
def Gx.at (G : Gx) (m1 : Mp) : Gx := { G with m0 := m1 }
section
variable {G : Gx} {m m1 : Mp}
theorem VR_at : VR (G.at m1) = VR G := by
  funext m w v
  cases w <;> rfl
theorem VRs_at {ws : List W} {vs : List V} : VRs (G.at m1) m ws vs ↔ VRs G m ws vs := by
  show Paired (VR (G.at m1) m) ws vs ↔ Paired (VR G m) ws vs
  rw [VR_at]
theorem CR_at : CR (G.at m1) = CR G := by
  funext m a c o
  cases c <;> first | rfl | (unfold CR; rw [VR_at])
theorem LamAt_at {H : Hp} {a : Addr} {i : Nat} {act : Option Nat} : LamAt (G.at m1) m H a i act ↔ LamAt G m H a i act := Iff.rfl
theorem Rel.re {h : AH} {H : Hp} (R : Rel G m h H) (x : m1.Le m) : Rel (G.at m1) m h H :=
  ⟨x, R.len, R.act, R.nd, fun l a e => let ⟨c, o, e1, e2, e3⟩ := R.cell l a e; ⟨c, o, e1, e2, by rw [CR_at]; exact e3⟩, R.tab, R.scr, R.sn, R.lam⟩
theorem Rel.un {h : AH} {H : Hp} (R : Rel (G.at m1) m h H) (x : G.m0.Le m1) : Rel G m h H :=
  ⟨x.trans R.pre, R.len, R.act, R.nd, fun l a e => let ⟨c, o, e1, e2, e3⟩ := R.cell l a e; ⟨c, o, e1, e2, by rw [CR_at] at e3; exact e3⟩, R.tab, R.scr, R.sn, R.lam⟩
theorem Sat.re {E : XK} {Q : VK} (x : G.m0.Le m1) : ∀ {r : Res W}, Sat G m E (VR G) r Q → Sat (G.at m1) m E (VR (G.at m1)) r Q
  | .ok a h, q => fun m' H' b y R r => q m' H' b y (R.un x) (by rw [VR_at] at r; exact r)
  | .exc _ _ _, q => fun m' H' ad y R e => q m' H' ad y (R.un x) e
  | .no, q => q
theorem Sat.un {E : XK} {Q : VK} (x : m1.Le m) : ∀ {r : Res W}, Sat (G.at m1) m E (VR (G.at m1)) r Q → Sat G m E (VR G) r Q
  | .ok a h, q => fun m' H' b y R r => q m' H' b y (R.re (x.trans y)) (by rw [VR_at]; exact r)
  | .exc _ _ _, q => fun m' H' ad y R e => q m' H' ad y (R.re (x.trans y)) e
  | .no, q => q
theorem Mp.le_act (m : Mp) (c : List (Str × Addr)) : m.Le ⟨m.as, m.cs ++ [c]⟩ := ⟨List.prefix_refl _, List.prefix_append _ _⟩
theorem Rel.actd {h : AH} {H : Hp} (R : Rel G m h H) (c : List (Str × Addr)) : Rel (G.at ⟨m.as, m.cs ++ [c]⟩) ⟨m.as, m.cs ++ [c]⟩ ⟨h.n, h.k + 1, h.s, h.t⟩ H :=
  ⟨.refl _, R.len, by show (m.cs ++ [c]).length = h.k + 1; rw [List.length_append, R.act]; rfl, R.nd, fun l a e => let ⟨k, o, e1, e2, e3⟩ := R.cell l a e; ⟨k, o, e1, e2, by rw [CR_at]; exact e3.mono (m.le_act c)⟩,
    R.tab, R.scr, R.sn, fun l a i act e z => (R.lam l a i act e z).mono (m.le_act c) fun _ _ q => q⟩
end
/-! ### what closures mean -/
def LamsOK (G : Gx) (P : Program) (w : World) (K : PySem.W.Frag) (mg : Str → Option Value) (base : Heap) (k : Nat) (m : Mp) (L : Lm) : Prop :=
  ∀ i act fn, L i act = some fn → ∀ (A : Around) (outer : List Env) (s : Shared) (H : Hp) (f : Addr) (us : List Value) (vs : List V) (Q : VK) (E : XK) (m' : Mp) (h : AH) (ws : List W) (l : Loc), m.Le m' → A.guards = some [] → Room k A → L2.Env0 P w K mg base A outer s H →
    Rel G m' h H → m'.as[l]? = some f → h.get l = some (.lam i act) → Vals vs us → VRs G m' ws vs → Sat G m' E (VR G) (fn ws h) Q → codeAny (model P w) A (.call (.ref f) ⟨us, []⟩) (L2.CR (L2.CX P w) outer P w H s Q E) s
theorem env0_sub {P : Program} {w : World} {K : PySem.W.Frag} {mg : Str → Option Value} {base base' : Heap} {A : Around} {outer : List Env} {s : Shared} {H : Hp} (M : L2.Mod K mg base) (sub : ∀ b o, base.get? b = some o → base'.get? b = some o) (sz : base.objs.size ≤ base'.objs.size) (e : L2.Env0 P w K mg base' A outer s H) : L2.Env0 P w K mg base A outer s H where
  frames := e.frames
  mod := M
  bs := fun b o q => e.bs b o (sub b o q)
  bsz := Nat.le_trans sz e.bsz
  funs := by
    have z := e.funs
    have all : ∀ l : List Env, s.heap.FunFrames base' l → s.heap.FunFrames base l := by
      intro l
      induction l with
      | nil => intro _; trivial
      | cons env r ih =>
        intro hl
        obtain ⟨hk, ⟨L, o, hf, hn, ho, hd⟩, hr⟩ := hl
        refine ⟨hk, ⟨L, o, hf, ?_, ho, hd⟩, ih hr⟩
        cases q : base.get? L with
        | none => rfl
        | some u => rw [sub L u q] at hn; cases hn
    exact all outer z
  frf := e.frf
  hok := e.hok
  bare := e.bare
section
variable {G : Gx} {P : Program} {w : World} {K : PySem.W.Frag} {mg : Str → Option Value} {base base' : Heap} {k j : Nat} {m m1 : Mp} {L : Lm}
theorem LamsOK.up (o : LamsOK G P w K mg base k m L) (M : L2.Mod K mg base) (sub : ∀ b o, base.get? b = some o → base'.get? b = some o) (sz : base.objs.size ≤ base'.objs.size) : LamsOK G P w K mg base' k m L :=
  fun i act fn e A outer s H f us vs Q E m' h ws l le hg hr e0 => o i act fn e A outer s H f us vs Q E m' h ws l le hg hr (env0_sub M sub sz e0)
theorem LamsOK.le (o : LamsOK G P w K mg base k m L) (x : m.Le m1) : LamsOK G P w K mg base k m1 L :=
  fun i act fn e A outer s H f us vs Q E m' h ws l le => o i act fn e A outer s H f us vs Q E m' h ws l (x.trans le)
theorem LamsOK.mono (o : LamsOK G P w K mg base k m L) (x : k ≤ j) : LamsOK G P w K mg base j m L :=
  fun i act fn e A outer s H f us vs Q E m' h ws l le hg hr => o i act fn e A outer s H f us vs Q E m' h ws l le hg (hr.mono x)
theorem LamsOK.at (o : LamsOK G P w K mg base k m L) (x : m.Le m1) (y : G.m0.Le m1) : LamsOK (G.at m1) P w K mg base k m1 L :=
  fun i act fn e A outer s H f us vs Q E m' h ws l le hg hr e0 R ea eh r rw q => o i act fn e A outer s H f us vs Q E m' h ws l (x.trans le) hg hr e0 (R.un y) ea eh r (VRs_at.mp rw) (q.un le)
end
structure FnC (G : Gx) (P : Program) (w : World) (K : PySem.W.Frag) (mg : Str → Option Value) (kl k : Nat) (f : Addr) (fd : FuncData) (ps : List Str) (fn : Lm → Fn) : Prop where
  len : ∀ L ws h, fn L ws h ≠ .no → ws.length = ps.length
  run : ∀ (base : Heap) (A : Around) (outer : List Env) (s : Shared) (H : Hp) (args : Args) (us : List Value) (vs : List V) (Q : VK) (E : XK) (m : Mp) (h : AH) (ws : List W) (L : Lm), A.guards = some [] → Room k A → L2.Env0 P w K mg base A outer s H → Tbs G base mg → LamsOK G P w K mg base kl m L →
    BindsTo s fd args (ps.zip us) → Vals vs us → Rel G m h H → VRs G m ws vs → Sat G m E (VR G) (fn L ws h) Q → codeAny (model P w) A (.call (.ref f) args) (L2.CR (L2.CX P w) outer P w H s Q E) s
theorem FnC.mono {G : Gx} {P : Program} {w : World} {K : PySem.W.Frag} {mg : Str → Option Value} {kl j k : Nat} {f : Addr} {fd : FuncData} {ps : List Str} {fn : Lm → Fn} (F : FnC G P w K mg kl j f fd ps fn) (h : j ≤ k) : FnC G P w K mg kl k f fd ps fn :=
  ⟨F.len, fun base A outer s H args us vs Q E m h' ws L hg hr => F.run base A outer s H args us vs Q E m h' ws L hg (hr.mono h)⟩
theorem fnC_ok {G : Gx} {P : Program} {w : World} {K : PySem.W.Frag} {mg : Str → Option Value} {kl : Nat} {x qual : Str} {st : Stmt} {f : Addr} {fd : FuncData} {N ps : List Str} {k : Nat} {b : Lm → SM} {fn : Lm → Fn} (n kk : Nat) (F : L2.Fun K x qual st f fd) (S : L2.FnScope N ps (L2.defScope st))
    (hb : ∀ (m1 : Mp) (L : Lm) (base : Heap) (cdv : Value) (A : Around) (outer : List Env) (s : Shared) (H : Hp) (E : XK), G.m0.Le m1 → Tbs (G.at m1) base mg → LamsOK (G.at m1) P w K mg base kl (G.at m1).m0 L → A.guards = some [] → Room k (A.deeper (PyProof.Rows.envOfC qual (L2.defScope st) s.heap.objs.size f cdv)) →
      PSs (L2.cxOf (L2.CX P w) P w K mg base N qual (L2.defScope st) f cdv A outer s H E) (L2.defBody st) (tS (G.at m1) (fun c d _ H => E c d H) (b L))) (hf : fn = fun L => callM n kk (b L)) (hn : N.length = n := by rfl) (hk : ps.length = kk := by rfl) : FnC G P w K mg kl (k + 1) f fd ps fn := by
  subst hn hk hf
  refine ⟨fun L ws h z => Decidable.byContradiction fun y => z (callM_len y), fun base A outer s H args us vs Q E m h ws L hg hr e0 tb lo hbi r R rw q => ?_⟩
  obtain ⟨oc, od, kV, doc, pm, an, cdv, ct, osl, rfl, lk, hcd⟩ := F.ex
  have hl : ws.length = ps.length := Decidable.byContradiction fun z => q.ne (callM_len z)
  have r1 : VRs (G.at m) m ws vs := VRs_at.mpr rw
  exact LamX.run_ofS lk hcd S hr e0 hbi r (by rw [← hl]; exact (vrs_len rw).symm) fun hr' => ⟨_, hb m L base cdv A outer s H E R.pre tb (lo.at (.refl m) R.pre) hg hr', m, h, _, R.re (.refl m), start_rel r1, sat_body (q.re R.pre)⟩
structure FunC (K : PySem.W.Frag) (x qual : Str) (st : Stmt) (f : Addr) (fd : FuncData) (c : Addr) : Prop where
  ex : ∃ (oc : Value) (od : Option Addr) (kV doc pm : Value) (an : Option Addr) (ct : Value) (osl : Array (Option Value)),
    fd = PySem.W.fnOf x qual (L2.defArgs st) (L2.defBody st) (L2.defScope st) .none kV doc pm an (.ref c) ct ∧ K.lookup f = some ⟨oc, od, .func fd, osl⟩ ∧ PySem.W.codeIn K (.ref c) qual = true
  kp : PySem.W.keepIn K (.ref f) = true
theorem FunC.fn {K : PySem.W.Frag} {x qual : Str} {st : Stmt} {f : Addr} {fd : FuncData} {c : Addr} (F : FunC K x qual st f fd c) : L2.Fun K x qual st f fd := let ⟨oc, od, kV, doc, pm, an, ct, osl, e1, e2, e3⟩ := F.ex; ⟨⟨oc, od, kV, doc, pm, an, _, ct, osl, e1, e2, e3⟩, F.kp⟩
theorem sat_act {G : Gx} {m m1 : Mp} {E : XK} {Q : VK} {r : Res W} (x : G.m0.Le m1) (y : m.Le m1) (q : Sat G m E (VR G) r Q) : Sat (G.at m1) m1 E (VR (G.at m1)) r Q := (q.mono y).re x
theorem fnM_ok {G : Gx} {P : Program} {w : World} {K : PySem.W.Frag} {mg : Str → Option Value} {kl : Nat} {x qual : Str} {st : Stmt} {f : Addr} {fd : FuncData} {c : Addr} {N ps : List Str} {k : Nat} {b : Lm → Nat → SM} {fn : Lm → Fn} (n kk : Nat) (F : FunC K x qual st f fd c) (S : L2.FnScope N ps (L2.defScope st))
    (hb : ∀ (m1 : Mp) (L : Lm) (a : Nat) (base : Heap) (A : Around) (outer : List Env) (s : Shared) (H : Hp) (E : XK), G.m0.Le m1 → (G.at m1).m0.cs[a]? = some (L2.cxOf (L2.CX P w) P w K mg base N qual (L2.defScope st) f (.ref c) A outer s H E).env.cells → Tbs (G.at m1) base mg → LamsOK (G.at m1) P w K mg base kl (G.at m1).m0 L → A.guards = some [] →
      Room k (A.deeper (PyProof.Rows.envOfC qual (L2.defScope st) s.heap.objs.size f (.ref c))) →
      PSs (L2.cxOf (L2.CX P w) P w K mg base N qual (L2.defScope st) f (.ref c) A outer s H E) (L2.defBody st) (tS (G.at m1) (fun c d _ H => E c d H) (b L a))) (hf : fn = fun L => callMk n kk (b L)) (hn : N.length = n := by rfl) (hk : ps.length = kk := by rfl) : FnC G P w K mg kl (k + 1) f fd ps fn := by
  subst hn hk hf
  refine ⟨fun L ws h z => Decidable.byContradiction fun y => z (callM_len y), fun base A outer s H args us vs Q E m h ws L hg hr e0 tb lo hbi r R rw q => ?_⟩
  obtain ⟨oc, od, kV, doc, pm, an, ct, osl, rfl, lk, hcd⟩ := F.ex
  have hl : ws.length = ps.length := Decidable.byContradiction fun z => q.ne (callM_len z)
  refine LamX.run_ofS lk hcd S hr e0 hbi r (by rw [← hl]; exact (vrs_len rw).symm) fun hr' => ?_
  let cl := (L2.cxOf (L2.CX P w) P w K mg base N qual (L2.defScope st) f (.ref c) A outer s H E).env.cells
  have le := m.le_act cl
  have pre := R.pre.trans le
  have r1 : VRs (G.at ⟨m.as, m.cs ++ [cl]⟩) ⟨m.as, m.cs ++ [cl]⟩ ws vs := VRs_at.mpr (rw.mono le)
  refine ⟨_, hb ⟨m.as, m.cs ++ [cl]⟩ L h.k base A outer s H E pre ?_ tb (lo.at le pre) hg hr', _, _, _, R.actd cl, start_rel r1, sat_body (sat_act pre le q)⟩
  show (m.cs ++ [cl])[h.k]? = some cl
  rw [← R.act]
  exact List.getElem?_concat_length
end Pm
/-! PmClo2: the rules of lambdas and of calls through them. -/
namespace Pm
open PySem PySem.Spec PySem.W
open L2 (V Hp HO Cx Inv PE PT PA PS PSs PW TE TT TA TS St VK XK WX Ends RelV Vals upd upd_same upd_ne Takes R2 OpR CallR MtR tOp tVar Vis Gl Room Binds frs cloFrom)
open LamX (CodeO Tabs TabS TabB ExtN)
open NdefX (NF CellsAt NScope ncx startF envF slotAt inv_startN cells_of Caps)
/-! ### making -/
theorem cr_tbl {G : Gx} {m : Mp} {a : Addr} {c : Cell} {o : HO} (r : CR G m a c o) (ps : Array Value) : o ≠ .tbl ps := fun e => by
  subst e
  cases c with
  | lst _ => obtain ⟨_, _, q⟩ := r; cases q
  | tup _ => obtain ⟨_, _, q⟩ := r; cases q
  | dct _ => obtain ⟨_, _, q⟩ := r; cases q
  | set _ => obtain ⟨_, q⟩ := r; cases q
  | xd _ => obtain ⟨_, _, q⟩ := r; cases q
  | exc _ _ => obtain ⟨_, _, q⟩ := r; unfold ExcO at q; cases q
  | exn _ => have q : HO.tbl ps = ExcO _ _ _ := r; unfold ExcO at q; cases q
  | lam _ _ => obtain ⟨_, q⟩ := r; cases q
  | dtp _ => obtain ⟨_, _, q⟩ := r; cases q
  | ali _ => obtain ⟨_, _, q⟩ := r; cases q
theorem Rel.newLam {G : Gx} {m : Mp} {h : AH} {H H1 : Hp} {f : Addr} {i : Nat} {act : Option Nat} (R : Rel G m h H) (nf : H f = none) (ex : ExtN H H1) (tb : Tabs G.tt H1) (la : LamAt G (m.snoc f) H1 f i act) (hx : ∃ φ, H1 f = some (.ext φ)) : Rel G (m.snoc f) (h.new (.lam i act)) H1 := by
  have old : ∀ {l a}, (m.as ++ [f])[l]? = some a → l ≠ h.n → m.as[l]? = some a := fun {l a} e hl => by
    obtain ⟨hi, _⟩ := List.getElem?_eq_some_iff.mp e
    have hi2 : l < m.as.length + 1 := by simpa using hi
    rw [List.getElem?_append_left (Nat.lt_of_le_of_ne (Nat.le_of_lt_succ hi2) fun z => hl (z.trans R.len))] at e
    exact e
  refine ⟨R.pre.trans (m.le_snoc f), by show (m.as ++ [f]).length = h.n + 1; rw [List.length_append, R.len]; rfl, R.act, ?_, fun l a e => ?_, tb, ?_, R.sn, fun l a i' act' e hc => ?_⟩
  · exact R.nd.snoc R.len fun j e => by
      obtain ⟨c', o', _, e3, _⟩ := R.cell j f e
      rw [nf] at e3
      cases e3
  · have e' : (m.as ++ [f])[l]? = some a := e
    rw [AH.get_new]
    by_cases hl : l = h.n
    · rw [if_pos hl]
      rw [hl, ← R.len, List.getElem?_concat_length] at e'
      cases e'
      obtain ⟨φ, z⟩ := hx
      exact ⟨_, _, rfl, z, φ, rfl⟩
    · rw [if_neg hl]
      obtain ⟨c', o', e1, e2, e3⟩ := R.cell l a (old e' hl)
      exact ⟨c', o', e1, ex _ _ e2 (cr_tbl e3), e3.mono (m.le_snoc f)⟩
  · rcases R.scr with ⟨ob, z⟩ | q
    · exact .inl ⟨ob, ex _ _ z fun ps y => nomatch y⟩
    · exact .inr q
  · have e' : (m.as ++ [f])[l]? = some a := e
    rw [AH.get_new] at hc
    by_cases hl : l = h.n
    · rw [if_pos hl] at hc
      cases hc
      rw [hl, ← R.len, List.getElem?_concat_length] at e'
      cases e'
      exact la
    · rw [if_neg hl] at hc
      exact (R.lam l a i' act' (old e' hl) hc).mono (m.le_snoc f) fun b φ z => ex _ _ z fun ps y => nomatch y
theorem clo_none {cells : List (Str × Addr)} : ∀ {names : List (Str × NameKind)} {acc : List (Str × Addr)}, (names.all fun y => !decide (y.2 = .free)) = true → cloFrom cells names acc = acc
  | [], _, _ => rfl
  | (n, k) :: r, acc, h => by
    rw [List.all_cons, Bool.and_eq_true] at h
    unfold cloFrom
    have hk : ¬ (k == NameKind.free) = true := fun z => by
      have z' : k = .free := by simpa using z
      have h1 := h.1
      rw [z'] at h1
      simp at h1
    rw [if_neg hk]
    exact clo_none h.2
def noFree (sc : Scope) : Bool := sc.names.all fun y => !decide (y.2 = .free)
def capB (sc nsc : Scope) : Bool := nsc.names.all fun y => !decide (y.2 = .free) || decide (sc.names.lookup y.1 = some .cell) || decide (sc.names.lookup y.1 = some .free)
theorem cap_free {sc nsc : Scope} (h : capB sc nsc = true) : ∀ y ∈ nsc.names, y.2 = .free → sc.names.lookup y.1 = some .cell ∨ sc.names.lookup y.1 = some .free := by
  unfold capB at h
  simp only [Bool.or_eq_true, Bool.not_eq_true', decide_eq_true_eq, decide_eq_false_iff_not, List.all_eq_true] at h
  intro y hy e
  rcases h y hy with (z | z) | z
  · exact absurd e z
  · exact .inl z
  · exact .inr z
def ActOk (G : Gx) (X : Cx) (scope : Scope) : Option Nat → Prop
  | some k => G.m0.cs[k]? = some X.env.cells
  | none => noFree scope = true
section
variable {X : Cx} {G : Gx} {Z : WX} {pos : Pos}
theorem pm_lam {i : Nat} {act : Option Nat} {c P : Addr} {q : Str} {params : Arguments} {body : Expr} {scope : Scope} (TB : TabB X.base X.mg c P) (hm : (P, q) ∈ G.tt) (hu : ∀ p ∈ G.tt, p.1 = P → p.2 = q) (hl : G.lam i = ⟨q, params, body, scope⟩) (ha : ActOk G X scope act)
    (hcode : X.env.code = .ref c := by rfl) (hq : X.env.qual ++ "<lambda>" = q := by rfl) (hdef : defaultsOf params X.env = ([], []) := by rfl) (hfr : capB X.env.scope scope = true := by kernel_rfl) : PE X (.Lambda params body scope pos) (tE G Z (eLam i act)) := by
  refine ⟨fun pins s σ H Q I h => ?_⟩
  obtain ⟨m, h, sl, R, S, sq⟩ := h
  subst hq
  have hfree := fun y hy e => (cap_free hfr y hy e).elim (fun z => I.ok.has _ (.inl z)) fun z => I.ok.has _ (.inr z)
  refine lam_made I TB hcode hm hu R.tab hdef hfree fun f c' H1 s' I1 ex tT nf hf hc => ?_
  have hL : LamAt G (m.snoc f) H1 f i act := by
    cases act with
    | some k => exact ⟨X.env.cells, c', (fun z => nomatch z), fun k' e => by cases e; exact pre_get (R.pre.trans (m.le_snoc f)).cs ha, by rw [hl]; exact hf, by rw [hl]; exact hc⟩
    | none => exact ⟨[], c', fun _ => rfl, (fun k' e => nomatch e), by rw [hl]; show H1 f = some (LamO f ⟨_, _, _, _, _, cloFrom [] scope.names [], _⟩ _); rw [clo_none ha]; rw [clo_none ha] at hf; exact hf, by rw [hl]; exact hc⟩
  have R1 := R.newLam nf ex tT hL ⟨_, hf⟩
  exact ⟨.ref f, H1, I1, rfl, sq (m.snoc f) H1 (.ref f) (m.le_snoc f) R1 ⟨f, by
    show (m.as ++ [f])[h.n]? = some f
    rw [← R.len]
    exact List.getElem?_concat_length, rfl⟩⟩
/-! ### a call of what a local holds -/
structure GtOK (G : Gx) (P : Program) (w : World) (K : PySem.W.Frag) (mg : Str → Option Value) (k : Nat) (gt : Nat → Option Fn) : Prop where
  ok : ∀ g fn, gt g = some fn → ∃ (fd : FuncData) (ps : List Str), FnG G P w K mg k (G.ga g) fd ps fn ∧ keepIn K (.ref (G.ga g)) = true ∧ Binds K fd ps []
theorem callWith_fn {M : Model} {A : Around} {E : Value → Shared → Prop} {s : Shared} {env : Env} {Q : Value → Shared → Prop} {f : Value} {B : Heap → Prop} {e : Expr} {r : List Expr} (hk : ∀ h, B h → ∃ k, (k = Keeper.frame ∨ k = Keeper.machine ∨ k = Keeper.boundFrame) ∧ Looks M h (keeperOf f) k)
    (h : wpAny M A (spliced (backTo pos (starEach (e :: r) env))) (fun vs s₁ => B s₁.heap ∧ wpAny M A (call f vs) Q E s₁) E s)
    (he : starEach (e :: r) env = (false, eval e env) :: starEach r env) (hpl : (backTo pos (starEach r env)).any (·.1) = false) : wpAny M A (callWith pos f [] (backTo pos (starEach (e :: r) env)) []) Q E s := by
  rw [he] at h ⊢
  exact callWith_of (by show ((false || (backTo pos (starEach r env)).any (·.1)) || false) = false; rw [hpl]; rfl) hk (PySem.Calls.evalArgs_plain h)
theorem callWith_fn0 {M : Model} {A : Around} {E : Value → Shared → Prop} {s : Shared} {env : Env} {Q : Value → Shared → Prop} {f : Value} {B : Heap → Prop} (hk : ∀ h, B h → ∃ k, (k = Keeper.frame ∨ k = Keeper.machine ∨ k = Keeper.boundFrame) ∧ Looks M h (keeperOf f) k)
    (b : B s.heap) (h : wpAny M A (call f []) Q E s) : wpAny M A (callWith pos f [] (backTo pos (starEach [] env)) []) Q E s := callWith_of rfl hk (PyProof.Rows.evalArgs_nil3 ⟨b, h⟩)
theorem ret_pass {pins : List (Addr × Obj)} {σ : St} {H : Hp} {s : Shared} {Q : VK} {f : Value} {us : List Value} (tk : Takes X Z) (I : Inv X pins σ H s)
    (h : codeAny (model X.prog X.w) X.A (.call f ⟨us, []⟩) (L2.CR (L2.CX X.prog X.w) X.stack X.prog X.w H s Q (fun c d H => Z c d σ H)) s) : wpAny (model X.prog X.w) X.A (call f us) (L2.EP X pins σ Q) X.xe s :=
  wpAny_call (codeAny_mono h fun r s' hq => by
    cases r with
    | error e => exact L2.passAt tk σ pins H s e s' I hq
    | ok fl =>
      cases fl with
      | ret u => exact I.after hq
      | next => exact False.elim hq
      | brk => exact False.elim hq
      | cont => exact False.elim hq)
variable {k kl : Nat} {gt : Nat → Option Fn} {L : Lm} {x : Str} {p : Pos} {i : Nat}
theorem run_v {pins : List (Addr × Obj)} {σ : St} {H : Hp} {s : Shared} {Q : VK} {us : List Value} {vs : List V} {m : Mp} {h : AH} {ws : List W} {w : W} {f : V} {u : Value} (GT : GtOK G X.prog X.w X.K X.mg k gt) (LO : LamsOK G X.prog X.w X.K X.mg X.base kl G.m0 L) (hgd : X.A.guards = some []) (hr : Room k X.A) (tb : Tbs G X.base X.mg) (hkl : kl ≤ k) (tk : Takes X Z)
    (I : Inv X pins σ H s) (rf : VR G m w f) (ru : RelV f u) (r : Vals vs us) (R : Rel G m h H) (rw : VRs G m ws vs) (q : Sat G m (fun c d H => Z c d σ H) (VR G) (valCall gt L w ws h) Q) : wpAny (model X.prog X.w) X.A (call u us) (L2.EP X pins σ Q) X.xe s := by
  unfold valCall at q
  cases w with
  | glo g =>
    dsimp only at q
    cases e : gt g with
    | none => rw [e] at q; exact q.elim
    | some fn =>
      rw [e] at q
      dsimp only at q
      obtain ⟨fd, ps, F, hk, hb⟩ := GT.ok g fn e
      cases rf
      cases ru
      refine ret_call (run_fg F hgd hr tb tk I (fun hl => ?_) r R rw q)
      have b := hb s us I.kIn (by rw [List.append_nil]; exact hl)
      rw [List.append_nil] at b
      exact b
  | ref l =>
    dsimp only at q
    obtain ⟨a, ea, rfl⟩ := rf
    cases ru
    cases e : h.get l with
    | none => rw [e] at q; exact q.elim
    | some c =>
      rw [e] at q
      cases c with
      | lam i act =>
        dsimp only at q
        cases e2 : L i act with
        | none => rw [e2] at q; exact q.elim
        | some fn =>
          rw [e2] at q
          exact ret_pass tk I (LO i act fn e2 X.A X.stack s H a us vs Q _ m h ws l R.pre hgd (hr.mono hkl) I.env0 R ea e r rw q)
      | _ => exact q.elim
  | _ => exact q.elim
theorem v_keeps {pins : List (Addr × Obj)} {σ : St} {H : Hp} {s : Shared} {m : Mp} {h : AH} {ws : List W} {w : W} {f : V} {u : Value} {E : XK} {Q : VK} (GT : GtOK G X.prog X.w X.K X.mg k gt) (I : Inv X pins σ H s) (R : Rel G m h H) (rf : VR G m w f) (ru : RelV f u) (q : Sat G m E (VR G) (valCall gt L w ws h) Q) : ∃ k, (k = Keeper.frame ∨ k = Keeper.machine ∨ k = Keeper.boundFrame) ∧ Looks (model X.prog X.w) s.heap (keeperOf u) k := by
  unfold valCall at q
  cases w with
  | glo g =>
    dsimp only at q
    cases e : gt g with
    | none => rw [e] at q; exact q.elim
    | some fn =>
      obtain ⟨fd, ps, F, hk, hb⟩ := GT.ok g fn e
      cases rf
      cases ru
      exact keeps_K hk _ I.kIn
  | ref l =>
    dsimp only at q
    obtain ⟨a, ea, rfl⟩ := rf
    cases ru
    cases e : h.get l with
    | none => rw [e] at q; exact q.elim
    | some c =>
      rw [e] at q
      cases c with
      | lam i act =>
        obtain ⟨cl, c', _, _, hf, _⟩ := R.lam l a i act ea e
        exact keeps_F _ (lamO_fn I.hok hf)
      | _ => exact q.elim
  | _ => exact q.elim
theorem pm_callV {e : Expr} {es : List Expr} {gs : List EM} (GT : GtOK G X.prog X.w X.K X.mg k gt) (LO : LamsOK G X.prog X.w X.K X.mg X.base kl G.m0 L) (hgd : X.A.guards = some []) (hr : Room k X.A) (tb : Tbs G X.base X.mg) (hkl : kl ≤ k) (tk : Takes X Z) (ha : PA X (e :: es) (tA G Z (evs gs))) (hN : X.N[i]? = some x := by rfl)
    (hv : Vis X.env.scope x := by first | exact Or.inl rfl | exact Or.inr (Or.inl rfl) | exact Or.inr (Or.inr rfl)) (hd : (x == ("__debug__" : Str)) = false := by decide) (hcd : (x == ("__classdict__" : Str)) = false := by decide)
    (he : starEach (e :: es) X.env = (false, eval e X.env) :: starEach es X.env := by rfl) (hpl : (backTo pos (starEach es X.env)).any (·.1) = false := by rfl) : PE X (.Call (.Name x p) (e :: es) [] pos) (tE G Z (eCallV gt L (eVar i) gs)) := by
  refine ⟨fun pins s σ H Q I h => ?_⟩
  obtain ⟨m, h, sl, R, S, q⟩ := h
  refine wpAny_Call_Name_kw (L2.thn ((pm_var (G := G) (Z := Z) (i := i) (pos := p) hN hv hd hcd).run pins s σ H _ I ⟨m, h, sl, R, S, Sat.bind (R := VR G) q⟩) fun u s1 ⟨f, H1, I1, ru, m1, w, h1, l1, R1, rf, q1⟩ => ?_)
  refine callWith_fn (B := fun hh => ∃ k, (k = Keeper.frame ∨ k = Keeper.machine ∨ k = Keeper.boundFrame) ∧ Looks (model X.prog X.w) hh (keeperOf u) k) (fun _ z => z) ?_ he hpl
  refine L2.thn (ha.run pos pins s1 σ H1 _ I1 ⟨m1, h1, sl, R1, S.mono l1, Sat.bind (R := VRs G) q1⟩) fun us s2 ⟨vs, H2, I2, r, m2, ws, h2, l2, R2, rw, q2⟩ => ?_
  exact ⟨v_keeps GT I2 R2 (rf.mono l2) ru q2, run_v GT LO hgd hr tb hkl tk I2 (rf.mono l2) ru r R2 rw q2⟩
theorem pm_callV0 (GT : GtOK G X.prog X.w X.K X.mg k gt) (LO : LamsOK G X.prog X.w X.K X.mg X.base kl G.m0 L) (hgd : X.A.guards = some []) (hr : Room k X.A) (tb : Tbs G X.base X.mg) (hkl : kl ≤ k) (tk : Takes X Z) (hN : X.N[i]? = some x := by rfl)
    (hv : Vis X.env.scope x := by first | exact Or.inl rfl | exact Or.inr (Or.inl rfl) | exact Or.inr (Or.inr rfl)) (hd : (x == ("__debug__" : Str)) = false := by decide) (hcd : (x == ("__classdict__" : Str)) = false := by decide) : PE X (.Call (.Name x p) [] [] pos) (tE G Z (eCallV gt L (eVar i) [])) := by
  refine ⟨fun pins s σ H Q I h => ?_⟩
  obtain ⟨m, h, sl, R, S, q⟩ := h
  refine wpAny_Call_Name_kw (L2.thn ((pm_var (G := G) (Z := Z) (i := i) (pos := p) hN hv hd hcd).run pins s σ H _ I ⟨m, h, sl, R, S, Sat.bind (R := VR G) q⟩) fun u s1 ⟨f, H1, I1, ru, m1, w, h1, l1, R1, rf, q1⟩ => ?_)
  refine callWith_fn0 (B := fun hh => ∃ k, (k = Keeper.frame ∨ k = Keeper.machine ∨ k = Keeper.boundFrame) ∧ Looks (model X.prog X.w) hh (keeperOf u) k) (fun _ z => z) (v_keeps GT I1 R1 rf ru q1) (run_v GT LO hgd hr tb hkl tk I1 rf ru .nil R1 .nil q1)
/-! ### a call of a def whose meaning hangs on closures -/
def Clo (X : Cx) (G : Gx) (kl : Nat) (Lx : Sl → Lm) : Prop := ∀ (pins : List (Addr × Obj)) (s : Shared) (σ : St) (H : Hp) (m : Mp) (h : AH) (sl : Sl), Inv X pins σ H s → Rel G m h H → SlR G m sl σ →
  ∃ base', L2.Env0 X.prog X.w X.K X.mg base' X.A X.stack s H ∧ Tbs G base' X.mg ∧ LamsOK G X.prog X.w X.K X.mg base' kl m (Lx sl)
variable {f : Addr} {fd : FuncData} {ps : List Str} {fn : Lm → Fn} {Lx : Sl → Lm}
theorem clo_same (tb : Tbs G X.base X.mg) (LO : LamsOK G X.prog X.w X.K X.mg X.base kl G.m0 L) : Clo X G kl fun _ => L := fun pins s σ H m h sl I R S => ⟨X.base, I.env0, tb, LO.le R.pre⟩
theorem run_fc {pins : List (Addr × Obj)} {σ : St} {H : Hp} {s : Shared} {Q : VK} {us : List Value} {vs : List V} {m : Mp} {h : AH} {ws : List W} {sl : Sl} (F : FnC G X.prog X.w X.K X.mg kl k f fd ps fn) (C : Clo X G kl Lx) (hgd : X.A.guards = some []) (hr : Room k X.A) (hb : Binds X.K fd ps []) (tk : Takes X Z)
    (I : Inv X pins σ H s) (r : Vals vs us) (R : Rel G m h H) (S : SlR G m sl σ) (rw : VRs G m ws vs) (q : Sat G m (fun c d H => Z c d σ H) (VR G) (fn (Lx sl) ws h) Q) : wpAny (model X.prog X.w) X.A (call (.ref f) us) (L2.EP X pins σ Q) X.xe s := by
  have hl : us.length = ps.length := by
    rw [← r.length, ← vrs_len rw]
    exact F.len _ _ _ q.ne
  have b := hb s us I.kIn (by rw [List.append_nil]; exact hl)
  rw [List.append_nil] at b
  obtain ⟨base', e0, tb, LO⟩ := C pins s σ H m h sl I R S
  exact ret_pass tk I (F.run base' X.A X.stack s H ⟨us, []⟩ us vs Q _ m h ws (Lx sl) hgd hr e0 tb LO b r R rw q)
theorem pm_callL {e : Expr} {es : List Expr} {gs : List EM} (F : FnC G X.prog X.w X.K X.mg kl k f fd ps fn) (C : Clo X G kl Lx) (hgd : X.A.guards = some []) (hr : Room k X.A) (hg : Gl X x) (hm : X.mg x = some (.ref f)) (hk : keepIn X.K (.ref f) = true) (hb : Binds X.K fd ps []) (tk : Takes X Z)
    (ha : PA X (e :: es) (tA G Z (evs gs))) (hdb : (x == ("__debug__" : Str)) = false := by decide) (he : starEach (e :: es) X.env = (false, eval e X.env) :: starEach es X.env := by rfl) (hpl : (backTo pos (starEach es X.env)).any (·.1) = false := by rfl) :
    PE X (.Call (.Name x p) (e :: es) [] pos) (tE G Z (eCallL fn Lx gs)) := by
  refine ⟨fun pins s σ H Q I h => ?_⟩
  obtain ⟨m, h, sl, R, S, q⟩ := h
  refine wpAny_Call_Name_kw (L2.ld_glob I hg hm ?_ hdb)
  refine callWith_K (h₀ := X.base) I.ok.mod.kin hk (L2.thn (ha.run pos pins s σ H _ I ⟨m, h, sl, R, S, Sat.bind (R := VRs G) q⟩) fun us s1 ⟨vs, H1, I1, r, m1, ws, h1, l1, R1, rw, q1⟩ => ⟨I1.kIn, ?_⟩) he hpl
  exact run_fc F C hgd hr hb tk I1 r R1 (S.mono l1) rw q1
theorem pm_callL0 (F : FnC G X.prog X.w X.K X.mg kl k f fd ps fn) (C : Clo X G kl Lx) (hgd : X.A.guards = some []) (hr : Room k X.A) (hg : Gl X x) (hm : X.mg x = some (.ref f)) (hk : keepIn X.K (.ref f) = true) (hb : Binds X.K fd ps []) (tk : Takes X Z)
    (hdb : (x == ("__debug__" : Str)) = false := by decide) : PE X (.Call (.Name x p) [] [] pos) (tE G Z (eCallL fn Lx [])) := by
  refine ⟨fun pins s σ H Q I h => ?_⟩
  obtain ⟨m, h, sl, R, S, q⟩ := h
  refine wpAny_Call_Name_kw (L2.ld_glob I hg hm ?_ hdb)
  exact callWith_K0 I.kIn hk (run_fc F C hgd hr hb tk I .nil R S .nil q)
end
/-! ### a lambda's meaning by its body -/
structure LamB (G : Gx) (P : Program) (w : World) (K : PySem.W.Frag) (mg : Str → Option Value) (base : Heap) (k : Nat) (d : LamD) (ps fr : List Str) (b : EM) : Prop where
  sc : NScope (ps ++ fr) ps fr d.scope
  bind : ∀ (cl : List (Str × Addr)) (pm cdv ctv : Value) (us : List Value), us.length = ps.length → bindArgs (kla_fn "<lambda>" d.q d.params d.body d.scope cl pm cdv ctv) ⟨us, []⟩ = pure (ps.zip us)
  body : ∀ (cl : List (Str × Addr)) (c' f : Addr) (A : Around) (outer : List Env) (s : Shared) (H : Hp) (E : XK), A.guards = some [] → Room k (A.deeper (envF (d.nf cl c') f s.heap.objs.size)) → Tbs G base mg → PE (ncx (L2.CX P w) P w K mg base (ps ++ fr) (d.nf cl c') f A outer s H E) d.body (tE G (fun c d _ H => E c d H) b)
theorem slr_some {G : Gx} {m : Mp} {ws : List W} {vs : List V} (r : VRs G m ws vs) {cap : Sl} {st : St} (c : SlR G m cap st) : SlR G m (ws.map some ++ cap) (vs.map some ++ st) := by
  induction r with
  | nil => exact c
  | cons q _ ih => exact .cons ⟨_, rfl, q⟩ ih
theorem lam_run {G : Gx} {P : Program} {w : World} {K : PySem.W.Frag} {mg : Str → Option Value} {base : Heap} {k : Nat} {d : LamD} {ps fr : List Str} {b : EM} (B : LamB G P w K mg base k d ps fr b) {cl : List (Str × Addr)} {c' : Addr} {A : Around} {outer : List Env} {s : Shared} {H : Hp} {f : Addr} {us : List Value} {vs : List V} {Q : VK} {E : XK} {m : Mp} {h : AH} {ws : List W} {cap : Sl} {st : St}
    (hg : A.guards = some []) (hr : Room (k + 1) A) (tb : Tbs G base mg) (e0 : L2.Env0 P w K mg base A outer s H) (hf : H f = some (LamO f (d.nf cl c') d.body)) (hc : H c' = some (CodeO c' d.q)) (C : CellsAt (cloFrom cl d.scope.names []) fr st s.heap H) (rc : SlR G m cap st) (r : Vals vs us) (R : Rel G m h H) (rw : VRs G m ws vs)
    (q : Sat G m E (VR G) (lamFn ps.length b cap ws h) Q) : codeAny (model P w) A (.call (.ref f) ⟨us, []⟩) (L2.CR (L2.CX P w) outer P w H s Q E) s := by
  have hl : ws.length = ps.length := Decidable.byContradiction fun z => q.ne (by
    unfold lamFn
    cases e : Nat.beq ws.length ps.length with
    | true => exact absurd (Nat.eq_of_beq_eq_true e) z
    | false => rfl)
  have q' : Sat G m E (VR G) (b (ws.map some ++ cap) h) Q := by
    unfold lamFn at q
    rw [hl, Nat.beq_refl] at q
    exact q
  have lv : vs.length = ps.length := (vrs_len rw).symm.trans hl
  have lim : s.heap.NoLimit := e0.mod.nolimit.keeps fun b o e => (e0.bs b o e).1
  obtain ⟨pm, ctv, ho⟩ := lamO_at e0.hok hf
  refine kla_callFunE hr.depth ho rfl B.sc.co B.sc.gen rfl (NdefX.codeO_at e0.hok hc) ?_
  have hb := B.bind (d.nf cl c').cl pm (.ref c') ctv us (by rw [← r.length]; exact lv)
  show wpAny _ _ (bindArgs (kla_fn "<lambda>" d.q d.params d.body d.scope (d.nf cl c').cl pm (.ref c') ctv) ⟨us, []⟩) _ _ _
  rw [hb]
  refine wpAny_pure (wpAny_newFunctionEnv B.sc.nocell (fun ⟨n, _⟩ hy => B.sc.par n (List.of_mem_zip hy).1) (fun h₁ hns hsb => ⟨lim.fresh _ hsb, ?_⟩) B.sc.kind)
  show codeAny _ _ (.expr d.body (envF (d.nf cl c') f s.heap.objs.size)) _ _
  have kp : ∀ b o, s.heap.get? b = some o → h₁.get? b = some o := fun b o e => hsb.extBut b o (Nat.ne_of_lt (Heap.lt_size e)) (Heap.get?_push_of_some _ e)
  have J : Inv (ncx (L2.CX P w) P w K mg base (ps ++ fr) (d.nf cl c') f A outer s H E) [] (startF (ps ++ fr) vs st) H { s with heap := h₁, toks := s.toks + (ps.zip us).length } := inv_startN (F := d.nf cl c') B.sc hr.hd e0 lv r C hns kp
  have st0 : startF (ps ++ fr) vs st = vs.map some ++ st := by
    unfold startF
    rw [List.length_append, lv, C.len, Nat.add_sub_cancel_left, Nat.sub_self, List.replicate_zero, List.append_nil]
  rw [st0] at J
  refine kla_codeExpr (wpAny_mono ((B.body cl c' f A outer s H E hg (hr.deeper _) tb).run [] _ _ H Q J ⟨m, h, _, R, slr_some rw rc, q'⟩) (fun v s' hq => ?_) fun e s' hq => hq)
  obtain ⟨w', H', J', rv, z⟩ := hq
  exact ⟨w', H', J'.os, J'.bare, J'.base, J'.hok, rv, z⟩

/-! ### the closures of the running activation -/
theorem cap_rel {G : Gx} {m : Mp} {sl : Sl} {σ : St} (S : SlR G m sl σ) : ∀ js : List Nat, SlR G m (capS js sl) (js.map (slotAt σ))
  | [] => .nil
  | j :: js => .cons (by
      cases e : sget sl j with
      | none => trivial
      | some w =>
        obtain ⟨x, e1, r⟩ := S.get e
        exact ⟨x, NdefX.slotAt_of e1, r⟩) (cap_rel S js)
theorem mod_up {K : PySem.W.Frag} {mg : Str → Option Value} {base base' : Heap} (M : L2.Mod K mg base) (sub : ∀ b o, base.get? b = some o → base'.get? b = some o) : L2.Mod K mg base' :=
  ⟨M.kin.keeps sub, M.glob.keeps sub, let ⟨mb, h1, h2⟩ := M.blt; ⟨mb, h1.keeps sub, h2⟩, M.nolimit.keeps sub⟩
theorem tabB_up {mg : Str → Option Value} {base base' : Heap} {c P : Addr} (t : TabB base mg c P) (sub : ∀ b o, base.get? b = some o → base'.get? b = some o) : TabB base' mg c P := ⟨t.code.keeps sub, t.bm.keeps sub, t.gP⟩
theorem frames_off {h base base' : Heap} : ∀ {l : List Env}, h.FunFrames base l → (∀ b ∈ frs l, base'.get? b = none) → h.FunFrames base' l
  | [], _, _ => trivial
  | env :: r, ⟨hk, ⟨L, o, hf, hn, ho, hd⟩, hr⟩, n => ⟨hk, ⟨L, o, hf, n L (by unfold frs; rw [List.filterMap_cons, hf]; exact List.mem_cons_self), ho, hd⟩, frames_off hr fun b hb => n b (by
      unfold frs
      rw [List.filterMap_cons, hf]
      exact List.mem_cons_of_mem _ hb)⟩
def calmH (h : Heap) (H : Hp) (l : List Addr) : Heap := hideAll (L2.hidT h H) l
theorem calmH_get {h : Heap} {H : Hp} {l : List Addr} {b : Addr} {o : Obj} (e : h.get? b = some o) (n : H b = none) (nl : b ∉ l) : (calmH h H l).get? b = some o := hideAll_get l (L2.hidT_get e n) nl
theorem of_calmH {h : Heap} {H : Hp} {l : List Addr} {b : Addr} {o : Obj} (e : (calmH h H l).get? b = some o) : h.get? b = some o ∧ H b = none := L2.of_hidT (of_hideAll l e)
theorem calmH_size (h : Heap) (H : Hp) (l : List Addr) : (calmH h H l).objs.size = h.objs.size := (hideAll_size _ _).trans (L2.hidT_size _ _)
section
variable {X : Cx} {pins : List (Addr × Obj)} {σ : St} {H : Hp} {s : Shared}
theorem calm_sub (I : Inv X pins σ H s) : ∀ b o, X.base.get? b = some o → (calmH s.heap H (frs X.stack)).get? b = some o := fun b o e => by
  obtain ⟨e1, e2⟩ := I.bs b o e
  refine calmH_get e1 e2 fun hm => ?_
  have z := (I.stack.mem hm).1
  rw [e] at z
  cases z
theorem calm_env0 (I : Inv X pins σ H s) : L2.Env0 X.prog X.w X.K X.mg (calmH s.heap H (frs X.stack)) X.A X.stack s H :=
  have e := I.env0
  ⟨e.frames, mod_up e.mod (calm_sub I), fun b o q => of_calmH q, Nat.le_of_eq (calmH_size _ _ _), frames_off e.funs fun b hb => hideAll_none _ hb, e.frf, e.hok, e.bare⟩
theorem cell_calm (I : Inv X pins σ H s) (hfn : ∀ y, X.fn y = true) {y : Str} {c : Addr} (e : X.env.cells.lookup y = some c) : c ∉ frs X.stack := fun hm => by
  rcases List.mem_cons.mp (I.stkSub c hm) with z | z
  · exact I.cne y c e z
  · obtain ⟨_, o, ho, _⟩ := I.ok.funs.mem z
    exact absurd (Nat.lt_of_lt_of_le (Heap.lt_size ho) (I.ok.cab y c (hfn y) e)) (Nat.lt_irrefl _)
theorem cells_calm {cl : List (Str × Addr)} {fr : List Str} {ws : List (Option V)} (I : Inv X pins σ H s) (hfn : ∀ y, X.fn y = true) (C : CellsAt cl fr ws s.heap H) (sub : ∀ y c, cl.lookup y = some c → X.env.cells.lookup y = some c) {s2 : Shared} {H2 : Hp}
    (bs : ∀ b o, (calmH s.heap H (frs X.stack)).get? b = some o → s2.heap.get? b = some o ∧ H2 b = none) : CellsAt cl fr ws s2.heap H2 := by
  have key : ∀ y c, cl.lookup y = some c → ∀ v, s.heap.IsCell c v → s2.heap.IsCell c v ∧ H2 c = none := fun y c e v ⟨o, ho, hd⟩ => by
    obtain ⟨z1, z2⟩ := bs c o (calmH_get ho (C.all y c e).1 (cell_calm I hfn (sub y c e)))
    exact ⟨⟨o, z1, hd⟩, z2⟩
  refine ⟨C.len, fun y c e => ?_, C.inj, fun i y e => ?_⟩
  · obtain ⟨n, v, z⟩ := C.all y c e
    obtain ⟨z1, z2⟩ := key y c e v z
    exact ⟨z2, v, z1⟩
  · obtain ⟨c, hc, hv⟩ := C.has i y e
    refine ⟨c, hc, fun v ev => ?_⟩
    obtain ⟨u, r, z⟩ := hv v ev
    exact ⟨u, r, (key y c hc _ z).1⟩
end
def LamIn (G : Gx) (P : Program) (w : World) (K : PySem.W.Frag) (mg : Str → Option Value) (N : List Str) (sc : Scope) (kl i : Nat) (sl : Sl) (fn : Fn) : Prop := ∃ (k : Nat) (ps fr : List Str) (js : List Nat) (b : EM), k + 1 ≤ kl ∧ fn = lamFn ps.length b (capS js sl) ∧ (∀ base, LamB G P w K mg base k (G.lam i) ps fr b) ∧
  capB sc (G.lam i).scope = true ∧ (∀ y ∈ fr, (y, NameKind.free) ∈ (G.lam i).scope.names) ∧ js.map (fun j => N[j]?) = fr.map some
theorem clo_ext {X : Cx} {G : Gx} {kl a : Nat} {L : Lm} {t : Sl → Nat → Option Fn} (tb : Tbs G X.base X.mg) (LO : LamsOK G X.prog X.w X.K X.mg X.base kl G.m0 L) (ha : G.m0.cs[a]? = some X.env.cells)
    (ht : ∀ sl i fn, t sl i = some fn → LamIn G X.prog X.w X.K X.mg X.N X.env.scope kl i sl fn) (hfn : ∀ y, X.fn y = true := by intro _; rfl) : Clo X G kl fun sl => ext L a (t sl) := fun pins s σ H m h sl I R S => by
  refine ⟨calmH s.heap H (frs X.stack), calm_env0 I, fun p hp => tabB_up (tb p hp) (calm_sub I), ?_⟩
  have old : LamsOK G X.prog X.w X.K X.mg (calmH s.heap H (frs X.stack)) kl m L := (LO.le R.pre).up I.ok.mod (calm_sub I) (by rw [calmH_size]; exact Nat.le_trans I.ok.bsz I.sz)
  intro i act fn e A outer s2 H2 f us vs Q E m' h' ws l le hg hr e0 R' ea eh r rw q
  cases act with
  | none => exact old i none fn e A outer s2 H2 f us vs Q E m' h' ws l le hg hr e0 R' ea eh r rw q
  | some k =>
    unfold ext at e
    dsimp only at e
    cases eb : Nat.beq k a with
    | false =>
      rw [eb] at e
      exact old i (some k) fn e A outer s2 H2 f us vs Q E m' h' ws l le hg hr e0 R' ea eh r rw q
    | true =>
      rw [eb] at e
      obtain rfl := Nat.eq_of_beq_eq_true eb
      obtain ⟨j, ps, fr, js, b, hj, rfl, B, cb, hfr, hjs⟩ := ht sl i fn e
      obtain ⟨cl, c', _, hk, hf, hc⟩ := R'.lam l f i (some k) ea eh
      have e1 := hk k rfl
      have e2 := pre_get R'.pre.cs ha
      rw [e1] at e2
      cases e2
      have cp : Caps X (cloFrom X.env.cells (G.lam i).scope.names []) fr js := Caps.made I.ok (cap_free cb) hfr hjs
      have C0 := cells_of I cp
      exact lam_run (B _) hg (hr.mono hj) (fun p hp => tabB_up (tb p hp) (calm_sub I)) e0 hf hc (cells_calm I hfn C0 cp.sub e0.bs) ((cap_rel S js).mono le) r R' rw q
theorem lams0 {G : Gx} {P : Program} {w : World} {K : PySem.W.Frag} {mg : Str → Option Value} {base : Heap} {k kl : Nat} {m : Mp} {t : Nat → Option Fn} (tb : Tbs G base mg) (hk : k + 1 ≤ kl)
    (ht : ∀ i fn, t i = some fn → ∃ (ps : List Str) (b : EM), fn = lamFn ps.length b [] ∧ LamB G P w K mg base k (G.lam i) ps [] b) : LamsOK G P w K mg base kl m (L0 t) := by
  intro i act fn e A outer s2 H2 f us vs Q E m' h' ws l le hg hr e0 R' ea eh r rw q
  cases act with
  | some _ => cases e
  | none =>
    obtain ⟨ps, b, rfl, B⟩ := ht i fn e
    obtain ⟨cl, c', h0, _, hf, hc⟩ := R'.lam l f i none ea eh
    have nf : ((G.lam i).scope.names.all fun y => !decide (y.2 = .free)) = true := List.all_eq_true.mpr fun y hy => by
      by_cases z : y.2 = .free
      · exact absurd (B.sc.free y hy z) List.not_mem_nil
      · simp [z]
    have C : CellsAt (cloFrom cl (G.lam i).scope.names []) [] [] s2.heap H2 := by
      rw [clo_none nf]
      exact ⟨rfl, (fun y c z => nomatch z), (fun x y c z => nomatch z), fun j y z => by simp at z⟩
    exact lam_run B hg (hr.mono hk) tb e0 hf hc C .nil r R' rw q
/-! ### where a lambda stands in a text -/
def nS (l : List Stmt) (i : Nat) : Stmt := l.getD i (.Pass ⟨0, 0, 0, 0⟩)
def nE (l : List Expr) (i : Nat) : Expr := l.getD i (.Constant .none 0 ⟨0, 0, 0, 0⟩)
def sB (s : Stmt) (k : Nat) : List Stmt := match s, k with
  | .For _ _ b _ _, 0 => b
  | .For _ _ _ b _, 1 => b
  | .While _ b _ _, 0 => b
  | .While _ _ b _, 1 => b
  | .If _ b _ _, 0 => b
  | .If _ _ b _, 1 => b
  | .Try b _ _ _ _, 0 => b
  | .Try _ (.ExceptHandler _ _ b _ :: _) _ _ _, 1 => b
  | .FunctionDef _ _ b _ _ _ _ _ _ _, 0 => b
  | _, _ => []
def sX (s : Stmt) : Expr := match s with
  | .Expr e _ => e
  | .Assign _ e _ => e
  | .AugAssign _ _ e _ => e
  | .Return (some e) _ => e
  | .If e _ _ _ => e
  | .While e _ _ _ => e
  | .For _ e _ _ _ => e
  | _ => .Constant .none 0 ⟨0, 0, 0, 0⟩
def eX (e : Expr) (k : Nat) : Expr := match e, k with
  | .Call f _ _ _, 0 => f
  | .Call _ as _ _, k + 1 => nE as k
  | .List es _, k => nE es k
  | .Tuple es _ _, k => nE es k
  | .BinOp a _ _ _, 0 => a
  | .BinOp _ _ b _, _ => b
  | .BoolOp _ es _, k => nE es k
  | .UnaryOp _ a _, _ => a
  | .Compare a _ _ _, 0 => a
  | .Compare _ _ es _, k + 1 => nE es k
  | .ListComp a _ _ _, 0 => a
  | _, _ => .Constant .none 0 ⟨0, 0, 0, 0⟩
def lamD (q : Str) (e : Expr) : LamD := match e with
  | .Lambda params body scope _ => ⟨q, params, body, scope⟩
  | e => ⟨q, ⟨[], [], none, [], [], none, []⟩, e, ⟨.function, [], false, false, []⟩⟩
structure DfC (K : PySem.W.Frag) (mg : Str → Option Value) (y x : Str) (st : Stmt) (f : Addr) (fd : FuncData) (c : Addr) : Prop where
  F : FunC K x x st f fd c
  m : mg y = some (.ref f)
theorem LamB.mono {G : Gx} {P : Program} {w : World} {K : PySem.W.Frag} {mg : Str → Option Value} {base : Heap} {j k : Nat} {d : LamD} {ps fr : List Str} {b : EM} (B : LamB G P w K mg base j d ps fr b) (h : j ≤ k) : LamB G P w K mg base k d ps fr b :=
  ⟨B.sc, B.bind, fun cl c' f A outer s H E hg hr => B.body cl c' f A outer s H E hg (hr.mono h)⟩
theorem dfC_mk {K : PySem.W.Frag} {h : Heap} {mg : Str → Option Value} (st : Stmt) {y x : Str} {f c : Addr} {oc : Value} {od an : Option Addr} {osl : Array (Option Value)} {kV doc pm ct : Value} (X : K.In h) (Gn : h.Ns mainGlobals mg)
    (a : nsIn K mainGlobals y = some (some (.ref f))) (l : K.lookup f = some ⟨oc, od, .func (fnOf x x (L2.defArgs st) (L2.defBody st) (L2.defScope st) .none kV doc pm an (.ref c) ct), osl⟩) (cd : codeIn K (.ref c) x = true) (k : keepIn K (.ref f) = true) :
    ∃ (f : Addr) (fd : FuncData), DfC K mg y x st f fd c := ⟨f, _, ⟨⟨oc, od, kV, doc, pm, an, ct, osl, rfl, l, cd⟩, k⟩, mg_of X Gn a⟩
end Pm
/-! PmOp2: more statements and calls. -/
namespace Pm
open PySem PySem.Spec
open L2 (V Hp HO Cx Inv PE PT PA PS PSs PW TE TT TA TS St VK XK WX Ends RelV Vals upd upd_same upd_ne Takes R2 OpR CallR MtR tOp tVar Vis Gl Room Binds)
section
variable {X : Cx} {G : Gx} {Z : WX} {pos : Pos}
theorem pms_par3 {i j l : Nat} {x y z : Str} {a b c : Expr} {ga gb gc : EM} {px py pz pt : Pos} {kt k2 pt2} (hc : X.calm = true) (hN : X.N.Nodup) (ha : PE X a (tE G Z ga)) (hb : PE X b (tE G Z gb)) (hcc : PE X c (tE G Z gc)) (hi : X.N[i]? = some x := by rfl) (hj : X.N[j]? = some y := by rfl) (hl : X.N[l]? = some z := by rfl) (hij : i ≠ j := by decide) (hil : i ≠ l := by decide) (hjl : j ≠ l := by decide)
    (hx : X.env.scope.names.lookup x = some .local := by rfl) (hy : X.env.scope.names.lookup y = some .local := by rfl) (hz : X.env.scope.names.lookup z = some .local := by rfl)
    (hw : swappedStores [.Tuple [.Name x px, .Name y py, .Name z pz] kt pt] (.Tuple [a, b, c] k2 pt2) X.env = pure (some [x, y, z]) := by rfl)
    (hs : swapsWithSole [.Tuple [.Name x px, .Name y py, .Name z pz] kt pt] (.Tuple [a, b, c] k2 pt2) pos.line X.env = pure false := by rfl)
    (h1 : starEach (a :: [b, c]) X.env = (false, eval a X.env) :: starEach [b, c] X.env := by rfl) (h2 : starEach (b :: [c]) X.env = (false, eval b X.env) :: starEach [c] X.env := by rfl) (h3 : starEach (c :: []) X.env = (false, eval c X.env) :: starEach [] X.env := by rfl) :
    PS X (.Assign [.Tuple [.Name x px, .Name y py, .Name z pz] kt pt] (.Tuple [a, b, c] k2 pt2) pos) (tS G Z (sPar3 i j l ga gb gc)) := ps_of (L2.ps_par3 hc hN hi hj hl hij hil hjl hx hy hz (L2.pa_cons ha (L2.pa_cons hb (L2.pa_cons hcc L2.pa_nil h3) h2) h1) hw hs) fun D σ H h =>
  sr_read h fun w v H1 m1 h1 s r R1 S1 q => by
    refine ⟨m1, h1, s, R1, S1, (Sat.toSR (R := VR G) S1 q).imp fun u H2 z => ?_⟩
    obtain ⟨m2, w2, h2, l2, R2, r2, q2⟩ := z
    refine ⟨m2, h2, s, R2, S1.mono l2, (Sat.toSR (R := VR G) (S1.mono l2) q2).imp fun t H3 z => ?_⟩
    obtain ⟨m3, w3, h3, l3, R3, r3, q3⟩ := z
    exact ⟨v, u, t, rfl, q3 m3 _ H3 (.refl m3) R3 (SlR.put (a := some w3) (v := some t) ⟨t, rfl, r3⟩ l (SlR.put (a := some w2) (v := some u) ⟨u, rfl, r2.mono l3⟩ j (SlR.put (a := some w) (v := some v) ⟨v, rfl, r.mono (l2.trans l3)⟩ i (S1.mono (l2.trans l3)))))⟩
end
end Pm
/-! PmSet: sorted(set(xs)) of a list of ints. -/
namespace Pm
open PySem PySem.Spec PyProof.Rows
open L2 (V Hp HO Cx Inv PE PT PA PS PSs PW TE TT TA TS St VK XK WX Ends RelV Vals upd upd_same upd_ne Takes R2 OpR CallR MtR tOp tVar Vis Gl Room Binds SetR set_update_ints setR_new_at code_set_led1)
section
variable {P : Program} {w : World} {A : Around} {E : Value → Shared → Prop} {s : Shared}
abbrev emptySet (w : World) : Obj := { cls := .type "set", dict := none, data := .set #[] 0 (.fresh 0 0 (!w.params.followText "set-order")) }
theorem set_of_ints {l : Addr} {xs : Array Value} {ks : List Int} {Q : Value → Shared → Prop} (quiet : A.handled = none) (isl : s.heap.IsList l xs) (are : IntsAre xs.toList ks) (few : ks.length + 1 < scanBound)
    (go : ∀ (g : Heap) (tk n : Nat), SetR w g s.heap.objs.size (fun j => decide (j ∈ ks)) n → n ≤ ks.length → (∀ b o, s.heap.get? b = some o → g.get? b = some o) → Q (.ref s.heap.objs.size) { s with heap := g, toks := tk }) :
    wpAny (model P w) A (call (.type "set") [.ref l]) Q E s := by
  have len : xs.size = ks.length := (Array.length_toList (xs := xs)).symm.trans (IntsAre.length are)
  obtain ⟨cc, tl, mro⟩ := F.called_set.mro
  have mk := F.called_set.made
  have sb := F.called_set.sub
  refine wpAny_call (codeAny_of_tree ?_)
  show wpAny _ A.in1 (callAny (.type "set") ⟨[.ref l], []⟩) _ _ s
  refine wpAny_pure ⟨Code.quiet_builtin _ (by decide +kernel), codeAny_builtin F.entry_type_call ?_⟩
  rw [Around.under_plain (weight_type_call_type "set" [.ref l] []) rfl]
  have nt := F.called_set.notType
  have cr := F.called_set.canCreate
  have tc := F.typeCall_set_1 (.ref l)
  repeat (any_goals (first | assumption | wp_step))
  refine codeAny_mono (code_set_led1 (.ref l) (E := E) (Q₁ := fun v s1 => v = .ref s.heap.objs.size ∧ s1 = { s with heap := s.heap.push (emptySet w) }) ⟨rfl, rfl⟩) fun r1 s1 q1 => ?_
  rcases r1 with e | fl
  · exact q1
  cases fl with
  | next => exact q1.elim
  | brk => exact q1.elim
  | cont => exact q1.elim
  | ret v =>
    obtain ⟨rfl, rfl⟩ := q1
    have at0 : (s.heap.push (emptySet w)).get? s.heap.objs.size = some (emptySet w) := Heap.get?_push_size _ rfl
    have ty0 : Shared.TypeIs { s with heap := s.heap.push (emptySet w) } (.ref s.heap.objs.size) "set" := ⟨_, at0, rfl⟩
    have lk := F.called_set.init.lookup
    have bd := F.called_set.init.bind (.ref s.heap.objs.size)
    repeat (any_goals (first | assumption | wp_step))
    refine codeAny_mono (codeAny_call_builtin (R := wants (fun r s2 => r = .none ∧ ∃ g tk n, s2 = { s with heap := g, toks := tk } ∧ SetR w g s.heap.objs.size (fun j => decide (j ∈ ks)) n ∧ n ≤ ks.length ∧
        (∀ b o, s.heap.get? b = some o → g.get? b = some o)) E) F.called_set.init.plain F.entry_set_init (check_set_init_1 ty0 ?_)) fun r2 s2 q2 => ?_
    · obtain ⟨⟨oc, od, odt, osl⟩, at1, c1, nl, d1⟩ := isl
      simp only at c1 d1
      subst c1; subst d1
      have at2 : (s.heap.push (emptySet w)).get? l = some { cls := .type "list", dict := od, data := .seq xs nl, slots := osl } := Heap.get?_push_of_some _ at1
      have sls := F.sub_list_set
      have slf := F.sub_list_frozenset
      have nd : (Value.type "list" == Value.type "dict") = false := by decide
      have isl2 : (s.heap.push (emptySet w)).IsList l xs := ⟨_, at2, rfl, nl, rfl⟩
      unfold Builtin.«set.__init__» noKeywords Builtin.Frozenset.updateFrom
      generalize ePI : pyIter = PI
      wp_walk
      subst ePI
      refine wpAny_pyIter_list isl2 (wpAny_bind (wpAny_runValue ?_))
      have lt : l < s.heap.objs.size := Heap.lt_size at1
      have q3 : A.in1.in1.in1.handled = none := by simp [quiet]
      have neI : l ≠ (s.heap.push (emptySet w)).objs.size := by rw [Heap.size_push]; exact Nat.ne_of_lt (Nat.lt_succ_of_lt lt)
      have nS : s.heap.objs.size ∉ [(s.heap.push (emptySet w)).objs.size, l] := by
        rw [Heap.size_push]
        simp only [List.mem_cons, List.mem_singleton, List.not_mem_nil, or_false, not_or]
        exact ⟨Nat.ne_of_lt (Nat.lt_succ_self _), Nat.ne_of_gt lt⟩
      have vals : ∀ (i : Nat) (v : Value), xs[i]? = some v → ∃ k t, ks[i]? = some k ∧ v = .int k t := fun i v hv => by
        have hi : i < ks.length := by rw [← len]; exact (Array.getElem?_eq_some_iff.mp hv).1
        obtain ⟨t, e⟩ := IntsAre.int_at are i v (by rw [Array.getElem?_toList]; exact hv)
        refine ⟨ks[i], t, List.getElem?_eq_getElem hi, ?_⟩
        rw [e, List.getD_eq_getElem?_getD, List.getElem?_eq_getElem hi] <;> rfl
      refine set_update_ints ((Walks.list q3 _ l neI xs).toS) s.heap.objs.size nS ks len few vals (xs.size - 0) 0 _ (by omega) (Nat.zero_le _) ⟨⟨_, Heap.get?_push_size _ rfl, rfl, rfl⟩, (isl2.push _)⟩ ?A1 ?A2
      case A1 => exact ⟨0, Nat.le_refl 0, setR_new_at (Heap.get?_push_of_some _ at0)⟩
      case A2 =>
        rintro ⟨g, gs, dr, tk, os⟩ n mv nle R1
        obtain rfl : gs = s.gens := mv.gens
        obtain rfl : dr = s.drawn := mv.drawn
        obtain rfl : os = s.os := mv.os
        rw [len] at nle
        show wpAny _ _ _ _ _ _
        refine wpAny_pure ?_
        show wpAny _ _ (ret Value.none) _ _ _
        refine wpAny_pure ⟨rfl, g, tk, n, rfl, R1, nle, fun b o e => ?_⟩
        have h0 : b < s.heap.objs.size := Heap.lt_size e
        have h2 : b ≠ (s.heap.push (emptySet w)).objs.size := by rw [Heap.size_push]; exact Nat.ne_of_lt (Nat.lt_succ_of_lt h0)
        refine mv.heap b o ?_ (Heap.get?_push_of_some _ (Heap.get?_push_of_some _ e))
        simp only [List.mem_cons, List.mem_singleton, List.not_mem_nil, or_false, not_or]
        exact ⟨Nat.ne_of_lt h0, h2⟩
    · rcases r2 with e | fl2
      · exact q2
      cases fl2 with
      | ret r =>
        obtain ⟨rfl, g, tk, n, rfl, R1, nle, kp⟩ := q2
        repeat (any_goals (first | assumption | wp_step))
        exact go _ _ _ R1 nle kp
      | next => exact q2.elim
      | brk => exact q2.elim
      | cont => exact q2.elim
end
end Pm
/-! PmSet: sorted(set(xs)) of a list of ints. -/
namespace Pm
open PySem PySem.Spec PyProof.Rows
open L2 (V Hp HO Cx Inv PE PT PA PS PSs PW TE TT TA TS St VK XK WX Ends RelV Vals upd upd_same upd_ne Takes R2 OpR CallR MtR tOp tVar Vis Gl Room Binds SetR set_update_ints setR_new_at code_set_led1)
/-! ### strictly rising lists -/
def insU : Int → List Int → List Int
  | x, [] => [x]
  | x, y :: r => match ieq x y with
    | true => y :: r
    | false => match ile x y with
      | true => x :: y :: r
      | false => y :: insU x r
def isortU : List Int → List Int
  | [] => []
  | x :: r => insU x (isortU r)
theorem insU_mem (x : Int) : ∀ (l : List Int) (k : Int), k ∈ insU x l ↔ k = x ∨ k ∈ l
  | [], k => by simp [insU]
  | y :: r, k => by
    unfold insU
    cases e : ieq x y with
    | true =>
      rw [ieq_iff] at e
      have e' := of_decide_eq_true e
      subst e'
      simp
    | false =>
      dsimp only
      cases e2 : ile x y with
      | true => simp
      | false =>
        dsimp only
        rw [List.mem_cons, insU_mem x r k, List.mem_cons]
        constructor <;> (rintro (h | h | h) <;> simp [h])
theorem isortU_mem : ∀ (l : List Int) (k : Int), k ∈ isortU l ↔ k ∈ l
  | [], k => by simp [isortU]
  | x :: r, k => by
    unfold isortU
    rw [insU_mem, isortU_mem r k, List.mem_cons]
theorem insU_up (x : Int) : ∀ {l : List Int}, l.Pairwise (· < ·) → (insU x l).Pairwise (· < ·)
  | [], _ => List.pairwise_singleton _ _
  | y :: r, h => by
    unfold insU
    obtain ⟨h1, h2⟩ := List.pairwise_cons.mp h
    cases e : ieq x y with
    | true => exact h
    | false =>
      rw [ieq_iff] at e
      have ne := of_decide_eq_false e
      dsimp only
      cases e2 : ile x y with
      | true =>
        rw [ile_iff] at e2
        have le := of_decide_eq_true e2
        refine List.pairwise_cons.mpr ⟨fun z hz => ?_, h⟩
        rcases List.mem_cons.mp hz with rfl | hz
        · omega
        · have := h1 z hz
          omega
      | false =>
        rw [ile_iff] at e2
        have gt := of_decide_eq_false e2
        refine List.pairwise_cons.mpr ⟨fun z hz => ?_, insU_up x h2⟩
        rcases (insU_mem x r z).mp hz with rfl | hz
        · omega
        · exact h1 z hz
theorem isortU_up : ∀ l : List Int, (isortU l).Pairwise (· < ·)
  | [] => .nil
  | x :: r => insU_up x (isortU_up r)
theorem up_uniq : ∀ {a b : List Int}, a.Pairwise (· < ·) → b.Pairwise (· < ·) → (∀ k, k ∈ a ↔ k ∈ b) → a = b
  | [], [], _, _, _ => rfl
  | [], y :: r, _, _, h => absurd ((h y).mpr List.mem_cons_self) List.not_mem_nil
  | x :: r, [], _, _, h => absurd ((h x).mp List.mem_cons_self) List.not_mem_nil
  | x :: r, y :: t, ha, hb, h => by
    obtain ⟨a1, a2⟩ := List.pairwise_cons.mp ha
    obtain ⟨b1, b2⟩ := List.pairwise_cons.mp hb
    have exy : x = y := by
      rcases List.mem_cons.mp ((h x).mp List.mem_cons_self) with e | e
      · exact e
      · rcases List.mem_cons.mp ((h y).mpr List.mem_cons_self) with e2 | e2
        · exact e2.symm
        · have h1 := a1 y e2
          have h2 := b1 x e
          omega
    subst exy
    refine congrArg _ (up_uniq a2 b2 fun k => ⟨fun hk => ?_, fun hk => ?_⟩)
    · rcases List.mem_cons.mp ((h k).mp (List.mem_cons_of_mem _ hk)) with e | e
      · have := a1 k hk
        omega
      · exact e
    · rcases List.mem_cons.mp ((h k).mpr (List.mem_cons_of_mem _ hk)) with e | e
      · have := b1 k hk
        omega
      · exact e
/-! ### sorted(set(e)) -/
def oSSet : Op1 := fun x h => oInts (fun is h => match Nat.blt is.length 64 with
  | true => some (.ref h.n, h.new (.lst ((isortU is).map W.int)))
  | false => none) [x] h
section
variable {X : Cx} {G : Gx} {Z : WX} {pos : Pos}
theorem pm_sset {e : Expr} {ge : EM} {p p2 q : Pos} (hg : Gl X "sorted") (hm : X.mg "sorted" = none) (hg2 : Gl X "set") (hm2 : X.mg "set" = none) (ha : PE X e (tE G Z ge)) (hc : X.calm = true := by rfl) (hK : X.K = G.K := by rfl)
    (na : starEach [e] X.env = (false, eval e X.env) :: starEach [] X.env := by rfl) : PE X (.Call (.Name "sorted" p) [.Call (.Name "set" p2) [e] [] q] [] pos) (tE G Z (eOp1 oSSet ge)) := by
  refine ⟨fun pins s σ H Q I h => ?_⟩
  obtain ⟨m, h, sl, R, S, sq⟩ := h
  refine PyProof.Rows.Call_ (L2.ld_blt I hg hm PyProof.Rows.boot_sorted ?_)
  refine PyProof.Rows.callWith_builtin1 (PyProof.Rows.args_cons ?_ rfl) rfl rfl
  refine PyProof.Rows.Call_ (L2.ld_blt I hg2 hm2 PyProof.Rows.boot_set ?_)
  refine PyProof.Rows.callWith_type1 (PyProof.Rows.args_cons (L2.thn (ha.run pins s σ H _ I ⟨m, h, sl, R, S, Sat.bind (R := VR G) sq⟩) fun v s1 ⟨x, H1, I1, r1, m1, w, h1, l1, R1, rw, q1⟩ => PyProof.Rows.args_nil ?_) na) na rfl
  obtain ⟨m2, h2, a, is, R2, e1, hq, q2⟩ := ints_read (X := X) hK (xs := [x]) (H := H1) (Q := Q) (f := fun is h => match Nat.blt is.length 64 with
    | true => some (.ref h.n, h.new (.lst ((isortU is).map W.int)))
    | false => none) ⟨m1, h1, [w], R1, .cons rw .nil, q1.ofO⟩
  cases e1
  cases r1
  obtain ⟨its, r, pl, hz⟩ := I1.list hq
  cases e64 : Nat.blt is.length 64 with
  | false =>
    rw [e64] at q2
    exact q2.elim
  | true =>
    rw [e64] at q2
    have lt64 : is.length < 64 := Nat.le_of_ble_eq_true e64
    refine set_of_ints (I1.ok.hd hc) pl.isList (by simpa using RZ.intsAre_vals r) (by unfold scanBound; omega) fun g tk n SR nle kp => PyProof.Rows.args_nil ?_
    have I2 : Inv X pins σ H1 { s1 with heap := g, toks := tk } := I1.kept kp
    refine L2.sorted_set SR (I1.ok.hd hc) (by omega) fun s' p out c ns k gg o hp hgt hi up hmem hl => ?_
    have en : ns = isortU is := up_uniq up (isortU_up is) fun k => by rw [isortU_mem, hmem, decide_eq_true_iff]
    subst en
    have hlen : ((isortU is).map V.int).length ≤ sizeLine := by rw [List.length_map, hl, sizeLine_eq]; omega
    have hn : H1 p = none := I2.hok.fresh hp
    have J : Inv X pins σ (upd H1 p (.lst ((isortU is).map V.int))) { ({ s1 with heap := g, toks := tk } : Shared) with heap := s'.heap, gens := s'.gens, drawn := s'.drawn, toks := s'.toks } :=
      I2.call (ch := []) (L2.Un.laid k hp hn) (I2.hok.laid k hp ⟨hlen, out.toList, c, L2.vals_of_ints hi, hgt⟩) (by rw [gg]; exact I1.bare) (fun _ z => nomatch z)
    have e : s' = { ({ s1 with heap := g, toks := tk } : Shared) with heap := s'.heap, gens := s'.gens, drawn := s'.drawn, toks := s'.toks } := by
      cases s'
      cases s1
      cases o
      rfl
    rw [e]
    exact ⟨.ref p, _, J, rfl, new_sat (c := .lst ((isortU is).map W.int)) R2 hn ⟨_, vrs_ints _, rfl⟩ q2⟩
end
end Pm
/-! PmSort: sorted of lists and tuples of ints, nested too. -/
namespace Pm
open PySem PySem.Spec PyProof.Rows
open PySem.W (EachIs AllAlike Sortable SortsAt sortVals keyToks keyToksAll alike alikeAll dataLe KeyedOut keyedOut_each TotalLe sortLe dataKind)
open L2 (V Hp HO Cx Inv PE PT PA PS PSs PW TE TT TA TS St VK XK WX Ends RelV Vals upd upd_same upd_ne Takes R2 OpR CallR MtR tOp tVar Vis Gl Room Binds)
/-! ### insertion -/
section
variable {α : Type}
theorem insG_split {le : α → α → Bool} {a : α} : ∀ (p r : List α), (∀ b ∈ p, le a b = false) → (∀ b ∈ r, le a b = true) → insG le a (p ++ r) = p ++ a :: r
  | [], [], _, _ => rfl
  | [], b :: r, _, h => by
    show insG le a (b :: r) = a :: b :: r
    unfold insG
    rw [h b List.mem_cons_self]
  | c :: p, r, h1, h2 => by
    show insG le a (c :: (p ++ r)) = c :: (p ++ a :: r)
    unfold insG
    rw [h1 c List.mem_cons_self]
    exact congrArg _ (insG_split p r (fun b hb => h1 b (List.mem_cons_of_mem _ hb)) h2)
theorem ms_isG {le le' : α → α → Bool} (T : TotalLe le) : ∀ l : List α, (∀ a ∈ l, ∀ b ∈ l, le a b = le' a b) → l.mergeSort le = isG le' l
  | [], _ => by rw [List.mergeSort_nil]; rfl
  | a :: l, h => by
    have tot : ∀ a b : α, (le a b || le b a) = true := fun a b => by
      rcases T.total a b with z | z <;> rw [z] <;> simp
    obtain ⟨p, r, e1, e2, e3⟩ := List.mergeSort_cons T.trans tot a l
    have ih := ms_isG T l fun x hx y hy => h x (List.mem_cons_of_mem _ hx) y (List.mem_cons_of_mem _ hy)
    have mem : ∀ b, b ∈ p ++ r → b ∈ l := fun b hb => by
      rw [← e2] at hb
      exact List.mem_mergeSort.mp hb
    have pw := List.pairwise_mergeSort T.trans tot (a :: l)
    rw [e1] at pw
    have hr : ∀ b ∈ r, le a b = true := fun b hb => (List.pairwise_cons.mp (List.pairwise_append.mp pw).2.1).1 b hb
    rw [e1]
    unfold isG
    rw [← ih, e2]
    refine (insG_split p r (fun b hb => ?_) (fun b hb => ?_)).symm
    · rw [← h a List.mem_cons_self b (List.mem_cons_of_mem _ (mem b (List.mem_append_left _ hb)))]
      simpa using e3 b hb
    · rw [← h a List.mem_cons_self b (List.mem_cons_of_mem _ (mem b (List.mem_append_right _ hb)))]
      exact hr b hb
theorem isG_mem {le : α → α → Bool} : ∀ {l : List α} {x : α}, x ∈ isG le l → x ∈ l
  | [], _, h => h
  | a :: r, x, h => by
    have ins : ∀ (t : List α), x ∈ insG le a t → x = a ∨ x ∈ t := by
      intro t
      induction t with
      | nil => intro h; exact .inl (by simpa [insG] using h)
      | cons b t ih =>
        intro h
        unfold insG at h
        cases e : le a b with
        | true => rw [e] at h; exact List.mem_cons.mp h
        | false =>
          rw [e] at h
          rcases List.mem_cons.mp h with rfl | h
          · exact .inr List.mem_cons_self
          · exact (ih h).imp id (List.mem_cons_of_mem _)
    rcases ins _ h with rfl | h
    · exact List.mem_cons_self
    · exact List.mem_cons_of_mem _ (isG_mem h)
end
/-! ### keys -/
section
variable {ρ : Nat → Int}
mutual
theorem toks_ok : ∀ (d : SD) (k : List Int), d.toks = some k → keyToks (d.g ρ) = k.map Sum.inl
  | .non, _, h => by unfold SD.toks at h; cases h; simp [SD.g, keyToks]
  | .int i, _, h => by unfold SD.toks at h; cases h; simp [SD.g, keyToks]
  | .bl b, _, h => by unfold SD.toks at h; cases h; cases b <;> simp [SD.g, keyToks]
  | .lst xs, k, h => by
    unfold SD.toks at h
    simp only [SD.g, keyToks]
    exact tokss_ok xs k h
  | .tup xs, k, h => by
    unfold SD.toks at h
    simp only [SD.g, keyToks]
    exact tokss_ok xs k h
  | .sym _ _ _, _, h => by unfold SD.toks at h; cases h
  | .str _, _, h => by unfold SD.toks at h; cases h
  | .rep _, _, h => by unfold SD.toks at h; cases h
  | .cat _ _, _, h => by unfold SD.toks at h; cases h
  | .dct _ _, _, h => by unfold SD.toks at h; cases h
theorem tokss_ok : ∀ (l : List SD) (k : List Int), SD.tokss l = some k → keyToksAll (SD.gs ρ l) = k.map Sum.inl
  | [], _, h => by unfold SD.tokss at h; cases h; simp [SD.gs, keyToksAll]
  | x :: r, k, h => by
    unfold SD.tokss at h
    cases e : x.toks with
    | none => rw [e] at h; cases h
    | some a =>
      rw [e] at h
      dsimp only at h
      cases e2 : SD.tokss r with
      | none => rw [e2] at h; cases h
      | some b =>
        rw [e2] at h
        cases h
        simp only [SD.gs, keyToksAll]
        rw [toks_ok x a e, tokss_ok r b e2]
        simp
end
mutual
theorem alk_ok : ∀ (d e : SD), d.alk e = true → alike (d.g ρ) (e.g ρ) = true
  | .lst xs, .lst ys, h => by
    unfold SD.alk at h
    simp only [SD.g, alike]
    exact alks_ok xs ys h
  | .tup xs, .tup ys, h => by
    unfold SD.alk at h
    simp only [SD.g, alike]
    exact alks_ok xs ys h
  | .non, e, h => by cases e <;> simp_all [SD.alk, SD.g, alike]
  | .bl _, e, h => by cases e <;> simp_all [SD.alk, SD.g, alike]
  | .int _, e, h => by cases e <;> simp_all [SD.alk, SD.g, alike]
  | .sym _ _ _, e, h => by simp [SD.alk] at h
  | .str _, e, h => by simp [SD.alk] at h
  | .rep _, e, h => by simp [SD.alk] at h
  | .cat _ _, e, h => by simp [SD.alk] at h
  | .dct _ _, e, h => by simp [SD.alk] at h
  | .lst _, .non, h => by simp [SD.alk] at h
  | .lst _, .bl _, h => by simp [SD.alk] at h
  | .lst _, .int _, h => by simp [SD.alk] at h
  | .lst _, .sym _ _ _, h => by simp [SD.alk] at h
  | .lst _, .str _, h => by simp [SD.alk] at h
  | .lst _, .rep _, h => by simp [SD.alk] at h
  | .lst _, .cat _ _, h => by simp [SD.alk] at h
  | .lst _, .dct _ _, h => by simp [SD.alk] at h
  | .lst _, .tup _, h => by simp [SD.alk] at h
  | .tup _, .non, h => by simp [SD.alk] at h
  | .tup _, .bl _, h => by simp [SD.alk] at h
  | .tup _, .int _, h => by simp [SD.alk] at h
  | .tup _, .sym _ _ _, h => by simp [SD.alk] at h
  | .tup _, .str _, h => by simp [SD.alk] at h
  | .tup _, .rep _, h => by simp [SD.alk] at h
  | .tup _, .cat _ _, h => by simp [SD.alk] at h
  | .tup _, .dct _ _, h => by simp [SD.alk] at h
  | .tup _, .lst _, h => by simp [SD.alk] at h
theorem alks_ok : ∀ (d e : List SD), SD.alks d e = true → alikeAll (SD.gs ρ d) (SD.gs ρ e) = true
  | x :: xs, y :: ys, h => by
    unfold SD.alks at h
    cases e : x.alk y with
    | false => rw [e] at h; cases h
    | true =>
      rw [e] at h
      simp only [SD.gs, alikeAll]
      rw [alk_ok x y e, alks_ok xs ys h] <;> rfl
  | [], ys, h => by cases ys <;> simp [SD.gs, alikeAll]
  | x :: xs, [], h => by simp [SD.gs, alikeAll]
end
end
theorem lexI_ok : ∀ a b : List Int, PyProof.Rows.lexLt itemOrd (a.map Sum.inl) (b.map Sum.inl) = lexI a b
  | [], [] => by simp [lexI, PyProof.Rows.lexLt]
  | [], _ :: _ => by simp [lexI, PyProof.Rows.lexLt]
  | _ :: _, [] => by simp [lexI, PyProof.Rows.lexLt]
  | x :: r, y :: t => by
    rw [List.map_cons, List.map_cons, lex_cons]
    unfold lexI
    have e1 : itemOrd.blt (Sum.inl x) (Sum.inl y) = ilt x y := by rw [ilt_iff]; rfl
    have e2 : itemOrd.blt (Sum.inl y) (Sum.inl x) = ilt y x := by rw [ilt_iff]; rfl
    rw [e1, e2, lexI_ok r t]
    cases ilt x y <;> cases ilt y x <;> rfl
/-! ### the sort -/
section
variable {X : Cx} {G : Gx} {Z : WX} {pos : Pos}
structure SOk (G : Gx) (K : PySem.W.Frag) (H : Hp) (m : Mp) (p : SIt) (v : V) : Prop where
  rd : L2.Dp K H v (p.1.g G.ρ)
  tk : keyToks (p.1.g G.ρ) = p.2.1.map Sum.inl
  vr : VR G m p.2.2 v
theorem sIts_ok {m : Mp} {h : AH} {H : Hp} {K : PySem.W.Frag} (R : Rel G m h H) : ∀ {ws : List W} {vs : List V} {l : List SIt}, sIts h ws = some l → VRs G m ws vs → Paired (SOk G K H m) l vs
  | [], _, l, e, .nil => by
    cases e
    exact .nil
  | w :: r, _, l, e, .cons q t => by
    unfold sIts at e
    cases e1 : rd 60 h w with
    | none => rw [e1] at e; cases e
    | some d =>
      rw [e1] at e
      dsimp only at e
      cases e2 : d.toks with
      | none => rw [e2] at e; cases e
      | some k =>
        rw [e2] at e
        dsimp only at e
        cases e3 : sIts h r with
        | none => rw [e3] at e; cases e
        | some l' =>
          rw [e3] at e
          cases e
          exact .cons ⟨rd_ok R _ _ _ _ e1 q, toks_ok d k e2, q⟩ (sIts_ok R e3 t)
theorem fits_mem : ∀ {l : List SD} {w k : Nat}, SD.fits l = some (w, k) → ∀ d ∈ l, (d.g G.ρ).depth ≤ k
  | [], _, _, _, d, hd => absurd hd List.not_mem_nil
  | x :: r, w, k, h, d, hd => by
    rw [SD.fits_c] at h
    cases e : SD.fit x with
    | none => rw [e] at h; cases h
    | some p =>
      obtain ⟨w1, k1⟩ := p
      rw [e] at h
      dsimp only at h
      cases e2 : SD.fits r with
      | none => rw [e2] at h; cases h
      | some p2 =>
        obtain ⟨w2, k2⟩ := p2
        rw [e2] at h
        cases h
        rcases List.mem_cons.mp hd with rfl | hd
        · exact Nat.le_trans (SD.fit_ok (G := G) d _ _ e).dp (Nat.le_max_left _ _)
        · exact Nat.le_trans (fits_mem e2 d hd) (Nat.le_max_right _ _)
theorem paired_each {α β γ : Type} {R : α → β → Prop} {S : β → γ → Prop} {T : γ → α → Prop} (f : ∀ a b c, R a b → S b c → T c a) : ∀ {as : List α} {bs : List β} {cs : List γ}, Paired R as bs → Paired S bs cs → EachIs T cs as
  | _, _, _, .nil, .nil => .nil
  | _, _, _, .cons r t, .cons s u => .cons (f _ _ _ r s) (paired_each f t u)
theorem each_paired {α β : Type} {T : β → α → Prop} : ∀ {as : List α} {cs : List β}, EachIs T cs as → Paired (fun a c => T c a) as cs
  | _, _, .nil => .nil
  | _, _, .cons r t => .cons r (each_paired t)
theorem split_paired {m : Mp} : ∀ {as : List SIt} {cs : List Value}, Paired (fun (p : SIt) (u : Value) => ∃ v, RelV v u ∧ VR G m p.2.2 v) as cs → ∃ vs, Vals vs cs ∧ VRs G m (as.map fun p => p.2.2) vs
  | _, _, .nil => ⟨[], .nil, .nil⟩
  | _, _, .cons ⟨v, r, q⟩ t => by
    obtain ⟨vs, h1, h2⟩ := split_paired t
    exact ⟨v :: vs, .cons r h1, .cons q h2⟩
theorem cr_sortD {k : Nat} (hr : Room k X.A) (hK : X.K = G.K := by rfl) : CallR X (.builtin "sorted") (rN G oSortD) := fun pins s σ H xs us Q I rx h => by
  obtain ⟨m, h, as, R, rs, q⟩ := h
  cases rs with
  | nil => exact q.elim
  | cons r t =>
    cases t with
    | cons _ _ => exact q.elim
    | nil =>
      rename_i w v
      unfold oSortD at q
      dsimp only at q
      cases e : lst? h w with
      | none => rw [e] at q; exact q.elim
      | some ys =>
        rw [e] at q
        dsimp only at q
        cases e2 : wints ys with
        | some is =>
          rw [e2] at q
          refine cr_sorted (G := G) hK pins s σ H [v] us Q I rx ⟨m, h, [w], R, .cons r .nil, ?_⟩
          unfold oInts
          dsimp only
          rw [e]
          dsimp only
          rw [e2]
          exact q
        | none =>
          rw [e2] at q
          dsimp only at q
          cases e3 : sIts h ys with
          | none => rw [e3] at q; exact q.elim
          | some l =>
            rw [e3] at q
            dsimp only at q
            cases e4 : allAlk l && (sortB l && dpB l) with
            | false => rw [e4] at q; exact q.elim
            | true =>
              rw [e4] at q
              obtain ⟨z1, z⟩ := Bool.and_eq_true_iff.mp e4
              obtain ⟨z2, z3⟩ := Bool.and_eq_true_iff.mp z
              obtain ⟨a, vs, rfl, rv, hq⟩ := lst_ok (X := X) hK R r e
              have pk : Paired (SOk G X.K H m) l vs := sIts_ok R e3 rv
              obtain ⟨its, rvs, pl, hz⟩ := I.list hq
              rw [L2.Vals.ref1 rx]
              have al : AllAlike (l.map fun p => p.1.g G.ρ) := fun d hd d' hd' => by
                obtain ⟨p, hp, rfl⟩ := List.mem_map.mp hd
                obtain ⟨p', hp', rfl⟩ := List.mem_map.mp hd'
                exact alk_ok _ _ (List.all_eq_true.mp (List.all_eq_true.mp z1 p hp) p' hp')
              have so : Sortable (l.map fun p => p.1.g G.ρ) := by
                rcases Bool.or_eq_true_iff.mp z2 with y | y
                · refine .inl fun d hd => ?_
                  obtain ⟨p, hp, rfl⟩ := List.mem_map.mp hd
                  have z := List.all_eq_true.mp y p hp
                  cases ep : p.1 with
                  | tup xs =>
                    rw [ep] at z
                    cases xs with
                    | nil => cases z
                    | cons x r => exact ⟨x.g G.ρ, SD.gs G.ρ r, by simp only [SD.g, SD.gs]⟩
                  | _ => rw [ep] at z; cases z
                · refine .inr fun d hd => ?_
                  obtain ⟨p, hp, rfl⟩ := List.mem_map.mp hd
                  have z := List.all_eq_true.mp y p hp
                  cases ep : p.1 with
                  | lst xs => exact ⟨by simp [SD.g], fun ys => by simp [SD.g]⟩
                  | int i => exact ⟨by simp [SD.g], fun ys => by simp [SD.g]⟩
                  | _ => rw [ep] at z; cases z
              have dp : ∀ d, d ∈ (l.map fun p => p.1.g G.ρ) → d.depth ≤ 60 := fun d hd => by
                obtain ⟨p, hp, rfl⟩ := List.mem_map.mp hd
                unfold dpB at z3
                cases ef : SD.fits (l.map (·.1)) with
                | none => rw [ef] at z3; cases z3
                | some wk =>
                  obtain ⟨w1, k1⟩ := wk
                  rw [ef] at z3
                  exact Nat.le_trans (fits_mem (G := G) ef p.1 (List.mem_map.mpr ⟨p, hp, rfl⟩)) (Nat.le_of_ble_eq_true z3)
              have ea : EachIs (fun u (p : SIt) => ((∃ as, Reads s.heap u (p.1.g G.ρ) as) ∧ ∃ v, RelV v u ∧ VR G m p.2.2 v) ∧ keyToks (p.1.g G.ρ) = p.2.1.map Sum.inl) its l :=
                paired_each (R := SOk G X.K H m) (S := RelV) (fun p v u a b => ⟨⟨L2.Dp.reads I _ v u a.rd b, v, b, a.vr⟩, a.tk⟩) pk rvs
              have old : ∀ b o, s.heap.get? b = some o → (PySem.W.sortingHeap (PySem.W.copyHeap s.heap its) (s.heap.objs.size + 1) its).get? b = some o := fun b o z => PySem.W.sorting_copy_old z
              have er : EachIs (fun u (p : SIt) => ∃ as, Reads (PySem.W.sortingHeap (PySem.W.copyHeap s.heap its) (s.heap.objs.size + 1) its) u (p.1.g G.ρ) as) its l := ea.mono fun u p z => let ⟨as, z⟩ := z.1.1; ⟨as, PyProof.Rows.Reads.keeps old z⟩
              have er2 : EachIs (fun u d => ∃ as, Reads (PySem.W.sortingHeap (PySem.W.copyHeap s.heap its) (s.heap.objs.size + 1) its) u d as) its (l.map fun p => p.1.g G.ρ) := by
                have mp : ∀ {us : List Value} {l : List SIt}, EachIs (fun u (p : SIt) => ∃ as, Reads (PySem.W.sortingHeap (PySem.W.copyHeap s.heap its) (s.heap.objs.size + 1) its) u (p.1.g G.ρ) as) us l → EachIs (fun u d => ∃ as, Reads (PySem.W.sortingHeap (PySem.W.copyHeap s.heap its) (s.heap.objs.size + 1) its) u d as) us (l.map fun p => p.1.g G.ρ) := by
                  intro us l z
                  induction z with
                  | nil => exact .nil
                  | cons a _ ih => exact .cons a ih
                exact mp er
              have SA : SortsAt X.prog X.w X.A.in1.in1 { s with heap := PySem.W.sortingHeap (PySem.W.copyHeap s.heap its) (s.heap.objs.size + 1) its } (dataKind (PySem.W.sortingHeap (PySem.W.copyHeap s.heap its) (s.heap.objs.size + 1) its) (l.map fun p => p.1.g G.ρ)) its :=
                SortsAt.data (s := { s with heap := PySem.W.sortingHeap (PySem.W.copyHeap s.heap its) (s.heap.objs.size + 1) its }) er2 al so fun d hd => by
                  have h1 := dp d hd
                  have h2 := hr.un
                  show X.A.units + 1 + 1 + d.depth < PySem.cLine
                  omega
              refine PySem.W.sorted_vals pl.isList SA (by rw [← rvs.length]; exact hz) ?_
              have ko : KeyedOut false (l.map fun p => p.1.g G.ρ) its (sortVals (dataKind (PySem.W.sortingHeap (PySem.W.copyHeap s.heap its) (s.heap.objs.size + 1) its) (l.map fun p => p.1.g G.ρ)) false its its) := ⟨_, its, al, rfl, er2⟩
              generalize sortVals (dataKind (PySem.W.sortingHeap (PySem.W.copyHeap s.heap its) (s.heap.objs.size + 1) its) (l.map fun p => p.1.g G.ρ)) false its its = out at ko ⊢
              have eo := keyedOut_each (fun p : SIt => p.1.g G.ρ) ko ea
              have tk : ∀ p ∈ l, keyToks (p.1.g G.ρ) = p.2.1.map Sum.inl := by
                have all : ∀ {us : List Value} {l : List SIt}, EachIs (fun u (p : SIt) => ((∃ as, Reads s.heap u (p.1.g G.ρ) as) ∧ ∃ v, RelV v u ∧ VR G m p.2.2 v) ∧ keyToks (p.1.g G.ρ) = p.2.1.map Sum.inl) us l → ∀ p ∈ l, keyToks (p.1.g G.ρ) = p.2.1.map Sum.inl := by
                  intro us l z
                  induction z with
                  | nil => intro p hp; exact absurd hp List.not_mem_nil
                  | cons a _ ih =>
                    intro p hp
                    rcases List.mem_cons.mp hp with rfl | hp
                    · exact a.2
                    · exact ih p hp
                exact all ea
              have ms : l.mergeSort (dataLe false fun p : SIt => p.1.g G.ρ) = isG leI l := ms_isG (PySem.W.sortLe_total _ _ _) l fun a ha b hb => by
                show (!PyProof.Rows.lexLt itemOrd (keyToks (b.1.g G.ρ)) (keyToks (a.1.g G.ρ))) = leI a b
                rw [tk a ha, tk b hb, lexI_ok]
                rfl
              rw [ms] at eo
              obtain ⟨us, u1, u2⟩ := split_paired (G := G) (m := m) (each_paired (eo.mono fun u p z => z.1.2))
              obtain ⟨ep, he'⟩ := sortedAll_at s.heap its out.toArray
              have hn : H (s.heap.objs.size + 1) = none := I.hok.fresh (Nat.le_succ _)
              have hlen : us.length ≤ sizeLine := by
                rw [u1.length, ko.length (by rw [List.length_map]; exact (Paired.length pk).trans rvs.length), ← rvs.length]
                exact hz
              exact ⟨.ref _, upd H (s.heap.objs.size + 1) (.lst us), I.laid (t' := s.toks) (fun _ _ => sortedAll_old) (Nat.le_succ _) ⟨hlen, out, ep, u1, he'⟩, rfl, new_sat (c := .lst ((isG leI l).map fun p => p.2.2)) R hn ⟨us, u2.mono (m.le_snoc _), rfl⟩ q⟩
end
end Pm
/-! PmSort2: sorted of tuples that begin with unlike lists, whatever stands behind. -/
namespace Pm
open PySem PySem.Spec PyProof.Rows
open PySem.W (EachIs SortsAt sortVals keyToks keyToksAll alike alikeAll TotalLe sortLe)
open L2 (V Hp HO Cx Inv PE CallR RelV Vals upd Room)
section
variable {X : Cx} {G : Gx} {m : Mp}
theorem sIts_all {h : AH} : ∀ {ws : List W} {l : List SIt}, sIts h ws = some l → ∀ p ∈ l, rd 60 h p.2.2 = some p.1 ∧ p.1.toks = some p.2.1
  | [], l, e, p, hp => by
    cases e
    cases hp
  | w :: r, l, e, p, hp => by
    unfold sIts at e
    cases e1 : rd 60 h w with
    | none => rw [e1] at e; cases e
    | some d =>
      rw [e1] at e
      dsimp only at e
      cases e2 : d.toks with
      | none => rw [e2] at e; cases e
      | some k =>
        rw [e2] at e
        dsimp only at e
        cases e3 : sIts h r with
        | none => rw [e3] at e; cases e
        | some l' =>
          rw [e3] at e
          cases e
          rcases List.mem_cons.mp hp with rfl | hp
          · exact ⟨e1, e2⟩
          · exact sIts_all e3 p hp
def ItV (G : Gx) (m : Mp) (p : SIt) (u : Value) : Prop := ∃ v, RelV v u ∧ VR G m p.2.2 v
noncomputable def itKind (G : Gx) (m : Mp) (l : List SIt) : PyProof.Rows.KeyKind where
  toKeyOrd := listOrd itemOrd
  keyOf u := open Classical in if q : ∃ p, p ∈ l ∧ ItV G m p u then some (q.choose.2.1.map Sum.inl) else none
  dflt := ([] : List (Int ⊕ List Nat))
theorem itV_uniq {h : AH} {H : Hp} (R : Rel G m h H) {p q : SIt} {u : Value} (hp : refW h p.2.2 = true) (hq : refW h q.2.2 = true) (a : ItV G m p u) (b : ItV G m q u) : p.2.2 = q.2.2 := by
  obtain ⟨v, a1, a2⟩ := a
  obtain ⟨w, b1, b2⟩ := b
  cases e : p.2.2 with
  | ref l =>
    cases e' : q.2.2 with
    | ref l' =>
      rw [e] at a2
      rw [e'] at b2
      obtain ⟨x, x1, rfl⟩ := a2
      obtain ⟨y, y1, rfl⟩ := b2
      have a1' : u = .ref x := a1
      have b1' : u = .ref y := b1
      rw [a1'] at b1'
      cases b1'
      rw [e] at hp
      rw [e'] at hq
      have hp' : isAli (h.get l) = false := Bool.not_eq_true' _ ▸ hp
      have hq' : isAli (h.get l') = false := Bool.not_eq_true' _ ▸ hq
      rcases R.nd l l' x x1 y1 with z | z | z
      · exact congrArg W.ref z
      · rw [hp'] at z
        cases z
      · rw [hq'] at z
        cases z
    | _ => rw [e'] at hq; cases hq
  | _ => rw [e] at hp; cases hp
theorem itKind_some {h : AH} {H : Hp} (R : Rel G m h H) {l : List SIt} (hl : ∀ p ∈ l, refW h p.2.2 = true ∧ rd 60 h p.2.2 = some p.1 ∧ p.1.toks = some p.2.1) {p : SIt} {u : Value} (hp : p ∈ l) (a : ItV G m p u) : (itKind G m l).keyOf u = some (p.2.1.map Sum.inl) := by
  have q : ∃ p, p ∈ l ∧ ItV G m p u := ⟨p, hp, a⟩
  have e : (itKind G m l).keyOf u = some (q.choose.2.1.map Sum.inl) := by
    show (open Classical in if q : ∃ p, p ∈ l ∧ ItV G m p u then some (q.choose.2.1.map Sum.inl) else none) = _
    rw [dif_pos q]
  obtain ⟨c1, c2⟩ := q.choose_spec
  obtain ⟨r1, r2, r3⟩ := hl _ c1
  obtain ⟨s1, s2, s3⟩ := hl p hp
  have ew := itV_uniq R r1 s1 c2 a
  rw [ew, s2] at r2
  have e1 : p.1 = q.choose.1 := Option.some.inj r2
  rw [← e1, s3] at r3
  rw [e, Option.some.inj r3]
theorem itKind_inv {l : List SIt} {u : Value} {k : List (Int ⊕ List Nat)} (e : (itKind G m l).keyOf u = some k) : ∃ p ∈ l, ItV G m p u ∧ k = p.2.1.map Sum.inl := by
  by_cases q : ∃ p, p ∈ l ∧ ItV G m p u
  · have e' : (itKind G m l).keyOf u = some (q.choose.2.1.map Sum.inl) := by
      show (open Classical in if q : ∃ p, p ∈ l ∧ ItV G m p u then some (q.choose.2.1.map Sum.inl) else none) = _
      rw [dif_pos q]
    obtain ⟨c1, c2⟩ := q.choose_spec
    rw [e'] at e
    exact ⟨_, c1, c2, (Option.some.inj e).symm⟩
  · have e' : (itKind G m l).keyOf u = none := by
      show (open Classical in if q : ∃ p, p ∈ l ∧ ItV G m p u then some (q.choose.2.1.map Sum.inl) else none) = _
      rw [dif_neg q]
      rfl
    rw [e'] at e
    cases e
theorem cr_sortD2 {k : Nat} (hr : Room k X.A) (hK : X.K = G.K := by rfl) : CallR X (.builtin "sorted") (rN G oSortD2) := fun pins s σ H xs us Q I rx h => by
  obtain ⟨m, h, as, R, rs, q⟩ := h
  unfold oSortD2 at q
  cases e0 : oSortD as h with
  | some r =>
    rw [e0] at q
    exact cr_sortD hr hK pins s σ H xs us Q I rx ⟨m, h, as, R, rs, by rw [e0]; exact q⟩
  | none =>
    rw [e0] at q
    cases rs with
    | nil => exact q.elim
    | cons r t =>
      cases t with
      | cons _ _ => exact q.elim
      | nil =>
        rename_i w v
        dsimp only at q
        cases e : lst? h w with
        | none => rw [e] at q; exact q.elim
        | some ys =>
          rw [e] at q
          dsimp only at q
          cases e3 : sIts h ys with
          | none => rw [e3] at q; exact q.elim
          | some l =>
            rw [e3] at q
            dsimp only at q
            cases e4 : (l.all fun a => isTupL a.1 && refW h a.2.2) && (allAlk2 l && dpB l) with
            | false => rw [e4] at q; exact q.elim
            | true =>
              rw [e4] at q
              obtain ⟨z1, z⟩ := Bool.and_eq_true_iff.mp e4
              obtain ⟨z2, z3⟩ := Bool.and_eq_true_iff.mp z
              obtain ⟨a, vs, rfl, rv, hq⟩ := lst_ok (X := X) hK R r e
              have pk : Paired (SOk G X.K H m) l vs := sIts_ok R e3 rv
              obtain ⟨its, rvs, pl, hz⟩ := I.list hq
              rw [L2.Vals.ref1 rx]
              have hl : ∀ p ∈ l, refW h p.2.2 = true ∧ rd 60 h p.2.2 = some p.1 ∧ p.1.toks = some p.2.1 := fun p hp => ⟨(Bool.and_eq_true_iff.mp (List.all_eq_true.mp z1 p hp)).2, sIts_all e3 p hp⟩
              have tl : ∀ p ∈ l, ∃ u r, p.1 = .tup (.lst u :: r) := fun p hp => by
                have z := (Bool.and_eq_true_iff.mp (List.all_eq_true.mp z1 p hp)).1
                cases ep : p.1 with
                | tup xs =>
                  rw [ep] at z
                  cases xs with
                  | nil => cases z
                  | cons x r =>
                    cases x with
                    | lst u => exact ⟨u, r, rfl⟩
                    | _ => cases z
                | _ => rw [ep] at z; cases z
              have dp : ∀ p ∈ l, (p.1.g G.ρ).depth ≤ 60 := fun p hp => by
                unfold dpB at z3
                cases ef : SD.fits (l.map (·.1)) with
                | none => rw [ef] at z3; cases z3
                | some wk =>
                  obtain ⟨w1, k1⟩ := wk
                  rw [ef] at z3
                  exact Nat.le_trans (fits_mem (G := G) ef p.1 (List.mem_map.mpr ⟨p, hp, rfl⟩)) (Nat.le_of_ble_eq_true z3)
              have ok : ∀ p ∈ l, ∃ v, SOk G X.K H m p v := by
                have all : ∀ {l : List SIt} {vs : List V}, Paired (SOk G X.K H m) l vs → ∀ p ∈ l, ∃ v, SOk G X.K H m p v := by
                  intro l vs z
                  induction z with
                  | nil => intro p hp; exact absurd hp List.not_mem_nil
                  | cons a _ ih =>
                    intro p hp
                    rcases List.mem_cons.mp hp with rfl | hp
                    · exact ⟨_, a⟩
                    · exact ih p hp
                exact all pk
              have old : ∀ b o, s.heap.get? b = some o → (PySem.W.sortingHeap (PySem.W.copyHeap s.heap its) (s.heap.objs.size + 1) its).get? b = some o := fun b o z => PySem.W.sorting_copy_old z
              have rdu : ∀ p ∈ l, ∀ u, ItV G m p u → ∃ as, Reads (PySem.W.sortingHeap (PySem.W.copyHeap s.heap its) (s.heap.objs.size + 1) its) u (p.1.g G.ρ) as := fun p hp u ⟨v, u1, u2⟩ => by
                obtain ⟨as, z⟩ := L2.Dp.reads I _ v u (rd_ok R _ _ _ _ (hl p hp).2.1 u2) u1
                exact ⟨as, PyProof.Rows.Reads.keeps old z⟩
              have ea : EachIs (fun u (p : SIt) => ItV G m p u ∧ p ∈ l) its l := PySem.W.each_mem (paired_each (R := SOk G X.K H m) (S := RelV) (T := fun u p => ItV G m p u) (fun p v u a b => ⟨v, b, a.vr⟩) pk rvs)
              have tk : ∀ p ∈ l, p.2.1.map Sum.inl = keyToks (p.1.g G.ρ) := fun p hp => let ⟨_, z⟩ := ok p hp; z.tk.symm
              have un : X.A.in1.in1.units + 61 < cLine := by
                have h2 := hr.un
                show X.A.units + 1 + 1 + 61 < cLine
                omega
              have SA : SortsAt X.prog X.w X.A.in1.in1 { s with heap := PySem.W.sortingHeap (PySem.W.copyHeap s.heap its) (s.heap.objs.size + 1) its } (itKind G m l) its := by
                refine ⟨fun u hu => ?_, tuples' (Value.type "list" != Value.type "tuple"), ?_, fun h2 E Q hq => ?_⟩
                · obtain ⟨p, hp, a, _⟩ := ea.left u hu
                  exact ⟨_, itKind_some R hl hp a⟩
                · intro E x y a b Q ha hb hq
                  obtain ⟨p, hp, p1, rfl⟩ := itKind_inv ha
                  obtain ⟨p', hp', p2, rfl⟩ := itKind_inv hb
                  have hq' : Q (PyProof.Rows.lexLt itemOrd (p.2.1.map Sum.inl) (p'.2.1.map Sum.inl)) { s with heap := PySem.W.sortingHeap (PySem.W.copyHeap s.heap its) (s.heap.objs.size + 1) its } := hq
                  rw [tk p hp, tk p' hp'] at hq'
                  obtain ⟨u, r, eu⟩ := tl p hp
                  obtain ⟨u', r', eu'⟩ := tl p' hp'
                  have d1 := dp p hp
                  have d2 := dp p' hp'
                  obtain ⟨as1, ra⟩ := rdu p hp x p1
                  obtain ⟨as2, rb⟩ := rdu p' hp' y p2
                  have cnd := List.all_eq_true.mp (List.all_eq_true.mp z2 p hp) p' hp'
                  rw [eu] at hq' d1 ra cnd
                  rw [eu'] at hq' d2 rb cnd
                  have g1 : (SD.tup (.lst u :: r)).g G.ρ = .tuple (.list (SD.gs G.ρ u) :: SD.gs G.ρ r) := by simp only [SD.g, SD.gs]
                  have g2 : (SD.tup (.lst u' :: r')).g G.ρ = .tuple (.list (SD.gs G.ρ u') :: SD.gs G.ρ r') := by simp only [SD.g, SD.gs]
                  rw [g1] at hq' d1 ra
                  rw [g2] at hq' d2 rb
                  have kt : ∀ ds : List PyData, keyToks (.tuple ds) = keyToksAll ds := fun ds => by simp only [keyToks]
                  rw [kt, kt] at hq'
                  cases ra with
                  | @tuple ad oj arr nn _ _ t1 t2 t3 t4 =>
                    cases rb with
                    | @tuple ad' oj' arr' nn' _ _ w1 w2 w3 w4 =>
                      have l1 : arr.size = (SD.gs G.ρ r).length + 1 := by simpa using SeqAt.ReadsAll.length _ _ _ t4
                      have l2 : arr'.size = (SD.gs G.ρ r').length + 1 := by simpa using SeqAt.ReadsAll.length _ _ _ w4
                      have dd1 : PyData.depthAll (.list (SD.gs G.ρ u) :: SD.gs G.ρ r) ≤ 60 := by
                        simp only [PyData.depth] at d1
                        omega
                      refine PySem.W.kat_lt t1 t3 w1 w3 ?_
                      rcases Bool.or_eq_true_iff.mp cnd with al | fd
                      · have al' := alk_ok (ρ := G.ρ) _ _ al
                        rw [g1, g2] at al'
                        exact PySem.W.katLex_alike (.list (SD.gs G.ρ u) :: SD.gs G.ρ r) (.list (SD.gs G.ρ u') :: SD.gs G.ρ r') 0 _ _ _ _ t4 w4 (by simpa only [alike] using al') (by
                          have := Nat.min_le_left (PyData.depthAll (.list (SD.gs G.ρ u) :: SD.gs G.ρ r)) (PyData.depthAll (.list (SD.gs G.ρ u') :: SD.gs G.ρ r'))
                          omega) (fun _ _ x r t ex z => by
                            cases ex
                            cases z) (by rw [l1, l2]; rfl) hq'
                      · obtain ⟨f1, f2⟩ := Bool.and_eq_true_iff.mp fd
                        have al := alk_ok (ρ := G.ρ) _ _ f1
                        have ne : PyData.eqv ((SD.lst u).g G.ρ) ((SD.lst u').g G.ρ) = false := by
                          cases es : sdEq (.lst u) (.lst u') with
                          | none => rw [es] at f2; cases f2
                          | some b =>
                            rw [es] at f2
                            cases b with
                            | true => cases f2
                            | false => exact sdEq_ok _ _ _ es
                        have g3 : ∀ u, (SD.lst u).g G.ρ = .list (SD.gs G.ρ u) := fun u => by simp only [SD.g]
                        rw [g3, g3] at al ne
                        have dl : (PyData.list (SD.gs G.ρ u)).depth ≤ 60 := by
                          simp only [PyData.depthAll] at dd1
                          exact Nat.le_trans (Nat.le_max_left _ _) dd1
                        have rm : X.A.in1.in1.units + min (PyData.list (SD.gs G.ρ u)).depth (PyData.list (SD.gs G.ρ u')).depth < cLine := by
                          have := Nat.min_le_left (PyData.list (SD.gs G.ρ u)).depth (PyData.list (SD.gs G.ρ u')).depth
                          omega
                        rw [PySem.W.dataLt_all_no al ne] at hq'
                        generalize arr.toList = la at t4 ⊢
                        generalize arr'.toList = lb at w4 ⊢
                        cases t4 with
                        | cons i1 i2 =>
                          cases w4 with
                          | cons j1 j2 =>
                            rw [List.zip_cons_cons]
                            refine PySem.W.kat_cons (PySem.W.eqAt_alike _ _ _ _ _ _ _ _ i1 j1 al rm _ _ _ _ ?_)
                            rw [ne]
                            exact PySem.W.kat_no (PySem.W.oneLt_alike (fun _ _ z => by cases z) i1 j1 al (fun z => by cases z) rm hq')
                · have e2 : EachIs (fun u d => ∃ as, Reads (PySem.W.sortingHeap (PySem.W.copyHeap s.heap its) (s.heap.objs.size + 1) its) u d as) its (l.map fun p => p.1.g G.ρ) := by
                    have mp : ∀ {us : List Value} {l' : List SIt}, EachIs (fun u (p : SIt) => ItV G m p u ∧ p ∈ l) us l' → EachIs (fun u d => ∃ as, Reads (PySem.W.sortingHeap (PySem.W.copyHeap s.heap its) (s.heap.objs.size + 1) its) u d as) us (l'.map fun p => p.1.g G.ρ) := by
                      intro us l' z
                      induction z with
                      | nil => exact .nil
                      | cons a _ ih => exact .cons (rdu _ a.2 _ a.1) ih
                    exact mp ea
                  obtain ⟨fs, t1, t2, t3⟩ := PySem.W.each_katTups e2 fun d hd => by
                    obtain ⟨p, hp, rfl⟩ := List.mem_map.mp hd
                    obtain ⟨u, r, eu⟩ := tl p hp
                    exact ⟨.list (SD.gs G.ρ u), SD.gs G.ρ r, by rw [eu]; simp only [SD.g, SD.gs]⟩
                  refine PySem.W.kat_kind (T := Value.type "list") t1 (by omega) (fun f hf => ?_) (beq_self_eq_true _) hq
                  obtain ⟨x, r, as, m1, m2⟩ := t3 f hf
                  obtain ⟨p, hp, ep⟩ := List.mem_map.mp m1
                  obtain ⟨u, r', eu⟩ := tl p hp
                  have : x = .list (SD.gs G.ρ u) := by
                    rw [eu] at ep
                    simp only [SD.g, SD.gs] at ep
                    cases ep
                    rfl
                  subst this
                  exact PySem.W.looks_reads m2
              refine PySem.W.sorted_vals pl.isList SA (by rw [← rvs.length]; exact hz) ?_
              have eo := PySem.W.sortVals_each (κ := itKind G m l) (rev := false) (R := fun u (p : SIt) => ItV G m p u) (fun p : SIt => p.2.1.map Sum.inl) (ea.mono fun _ _ z => z.1) (ea.mono fun u p z => itKind_some R hl z.2 z.1)
              have ln : (sortVals (itKind G m l) false its its).length = its.length := PySem.W.sortVals_length false rfl
              generalize sortVals (itKind G m l) false its its = out at eo ln ⊢
              have ms : l.mergeSort (sortLe (itKind G m l).toKeyOrd false fun p : SIt => p.2.1.map Sum.inl) = isG leI l := ms_isG (PySem.W.sortLe_total _ _ _) l fun a ha b hb => by
                show (!PyProof.Rows.lexLt itemOrd (b.2.1.map Sum.inl) (a.2.1.map Sum.inl)) = leI a b
                rw [lexI_ok]
                rfl
              rw [ms] at eo
              obtain ⟨us, u1, u2⟩ := split_paired (G := G) (m := m) (each_paired eo)
              obtain ⟨ep, he'⟩ := sortedAll_at s.heap its out.toArray
              have hn : H (s.heap.objs.size + 1) = none := I.hok.fresh (Nat.le_succ _)
              have hlen : us.length ≤ sizeLine := by
                rw [u1.length, ln, ← rvs.length]
                exact hz
              exact ⟨.ref _, upd H (s.heap.objs.size + 1) (.lst us), I.laid (t' := s.toks) (fun _ _ => sortedAll_old) (Nat.le_succ _) ⟨hlen, out, ep, u1, he'⟩, rfl, new_sat (c := .lst ((isG leI l).map fun p => p.2.2)) R hn ⟨us, u2.mono (m.le_snoc _), rfl⟩ q⟩
end
end Pm
/-! PmOp3: x op= e, list methods, two-fold comprehensions, backward loops. -/
namespace Pm
open PySem PySem.Spec
open L2 (V Hp HO Cx Inv PE PT PA PS PSs PW PI PG TE TT TA TS TG TI St VK XK WX Ends RelV Vals upd upd_same upd_ne Takes R2 OpR CallR MtR tOp tVar Vis Gl Room Binds It)
section
variable {X : Cx} {G : Gx} {Z : WX} {pos : Pos}
/-! ### x op= e -/
def oIAdd : Op2 := fun a b h => match a, b with
  | .int i, .int j => some (.int (i + j), h)
  | .ref l, .ref k => (match h.get l, h.get k with
    | some (.lst xs), some (.lst ys) => (match Nat.ble (xs.length + ys.length) 1000000 with
      | true => some (.ref l, h.put l (.lst (xs ++ ys)))
      | false => none)
    | _, _ => none)
  | _, _ => none
theorem vrs_cat {m : Mp} : ∀ {ws us : List W} {vs ts : List V}, VRs G m ws vs → VRs G m us ts → VRs G m (ws ++ us) (vs ++ ts)
  | _, _, _, _, .nil, r => r
  | _, _, _, _, .cons q t, r => .cons q (vrs_cat t r)
theorem ip_iadd : L2.PIp X .Add (rA G oIAdd) := fun pins s σ H x y v u Q I r1 r2 h => by
  obtain ⟨m, h, a, b, R, ra, rb, q⟩ := h
  unfold oIAdd at q
  cases a with
  | int i =>
    cases b with
    | int j =>
      cases ra
      cases rb
      exact L2.iop_add pins s σ H _ _ v u Q I r1 r2 ⟨i, j, rfl, rfl, q m H _ (.refl m) R rfl⟩
    | _ => exact q.elim
  | ref l =>
    cases b with
    | ref k =>
      dsimp only at q
      cases e1 : h.get l with
      | none => rw [e1] at q; exact q.elim
      | some c =>
        cases e2 : h.get k with
        | none => rw [e1, e2] at q; cases c <;> exact q.elim
        | some c2 =>
          rw [e1, e2] at q
          cases c with
          | lst xs =>
            cases c2 with
            | lst ys =>
              dsimp only at q
              cases e3 : Nat.ble (xs.length + ys.length) 1000000 with
              | false => rw [e3] at q; exact q.elim
              | true =>
                rw [e3] at q
                obtain ⟨A, ha, rfl⟩ := ra
                obtain ⟨B, hb, rfl⟩ := rb
                obtain ⟨_, o1, vs, w1, rfl⟩ := R.see ha e1
                obtain ⟨_, o2, ts, w2, rfl⟩ := R.see hb e2
                refine L2.iop_ext pins s σ H _ _ v u Q I r1 r2 ⟨A, B, vs, ts, rfl, rfl, o1, o2, by rw [← vrs_len w1, ← vrs_len w2]; exact line_ok e3, ?_⟩
                exact q m _ (.ref A) (.refl m) (R.put (c' := .lst (xs ++ ys)) ha e1 rfl ⟨_, vrs_cat w1 w2, rfl⟩) ⟨A, ha, rfl⟩
            | _ => exact q.elim
          | _ => exact q.elim
    | _ => exact q.elim
  | _ => cases b <;> exact q.elim
def oISub : Op2 := fun a b h => match a, b with
  | .int i, .int j => some (.int (i - j), h)
  | _, _ => none
theorem ip_isub : L2.PIp X .Sub (rA G oISub) := fun pins s σ H x y v u Q I r1 r2 h => by
  obtain ⟨m, h, a, b, R, ra, rb, q⟩ := h
  unfold oISub at q
  cases a with
  | int i =>
    cases b with
    | int j =>
      cases ra
      cases rb
      exact L2.iop_sub pins s σ H _ _ v u Q I r1 r2 ⟨i, j, rfl, rfl, q m H _ (.refl m) R rfl⟩
    | _ => exact q.elim
  | _ => cases b <;> exact q.elim
def oIMul : Op2 := fun a b h => match a, b with
  | .int i, .int j => (match smallI i with
    | true => some (.int (i * j), h)
    | false => none)
  | _, _ => none
theorem ip_imul : L2.PIp X .Mult (rA G oIMul) := fun pins s σ H x y v u Q I r1 r2 h => by
  obtain ⟨m, h, a, b, R, ra, rb, q⟩ := h
  unfold oIMul at q
  cases a with
  | int i =>
    cases b with
    | int j =>
      dsimp only at q
      cases e : smallI i with
      | false => rw [e] at q; exact q.elim
      | true =>
        rw [e] at q
        cases ra
        cases rb
        have h1 := small_lo e
        have h2 := small_hi e
        exact L2.iop_mul pins s σ H _ _ v u Q I r1 r2 ⟨i, j, rfl, rfl, .inl ⟨by omega, by omega⟩, q m H _ (.refl m) R rfl⟩
    | _ => exact q.elim
  | _ => cases b <;> exact q.elim
/-! ### list.pop(i), index, count -/
theorem vrs_erase {m : Mp} : ∀ {ws : List W} {vs : List V} (k : Nat), VRs G m ws vs → VRs G m (ws.eraseIdx k) (vs.eraseIdx k)
  | _, _, _, .nil => by simpa using Paired.nil
  | _, _, 0, .cons _ t => t
  | _, _, k + 1, .cons q t => .cons q (vrs_erase k t)
def oPopAt : Op2 := fun a b h => match a, b with
  | .ref l, .int (.ofNat k) => (match h.get l with
    | some (.lst xs) => (match nth xs k with
      | some y => (match Nat.blt k 1000000 with
        | true => some (y, h.put l (.lst (xs.eraseIdx k)))
        | false => none)
      | none => none)
    | _ => none)
  | _, _ => none
theorem popAt_read {m : Mp} {h : AH} {H : Hp} {w w2 : W} {v v2 : V} {Q : VK} (R : Rel G m h H) (r : VR G m w v) (r2 : VR G m w2 v2) (q : Sat G m (fun _ _ _ => False) (VR G) (ofO (oPopAt w w2 h)) Q) : L2.rPopAt v [v2] H Q := by
  unfold oPopAt at q
  cases w with
  | ref l =>
    cases w2 with
    | int i =>
      cases i with
      | ofNat k =>
        dsimp only at q
        cases e1 : h.get l with
        | none => rw [e1] at q; exact q.elim
        | some c =>
          rw [e1] at q
          cases c with
          | lst xs =>
            dsimp only at q
            cases e2 : nth xs k with
            | none => rw [e2] at q; exact q.elim
            | some y =>
              rw [e2] at q
              dsimp only at q
              cases e3 : Nat.blt k 1000000 with
              | false => rw [e3] at q; exact q.elim
              | true =>
                rw [e3] at q
                obtain ⟨A, ha, rfl⟩ := r
                cases r2
                obtain ⟨_, o1, vs, w1, rfl⟩ := R.see ha e1
                rw [nth_get] at e2
                obtain ⟨z, e4, rz⟩ := vrs_get w1 e2
                have lt : k < vs.length := (List.getElem?_eq_some_iff.mp e4).1
                have k1 : k < 1000000 := Nat.le_of_ble_eq_true e3
                refine ⟨A, vs, (Int.ofNat k), k, z, rfl, rfl, o1, ?_, ?_, ?_, e4, ?_⟩
                · show -(2 ^ 63) ≤ (k : Int)
                  omega
                · show (k : Int) < 2 ^ 63
                  omega
                · unfold seqIndex?
                  have n0 : ¬ ((k : Int) < 0) := by omega
                  have n1 : ((k : Int) < (vs.length : Int)) := by omega
                  simp [n0, n1]
                · exact q m _ z (.refl m) (R.put (c' := .lst (xs.eraseIdx k)) ha e1 rfl ⟨_, vrs_erase k w1, rfl⟩) rz
          | _ => exact q.elim
      | negSucc _ => exact q.elim
    | _ => exact q.elim
  | _ => exact q.elim
theorem pm_popAt {o e : Expr} {apos cpos : Pos} {go ge : EM} (ho : PE X o (tE G Z go)) (he : PE X e (tE G Z ge)) (hs1 : starEach [e] X.env = (false, eval e X.env) :: starEach [] X.env := by rfl)
    (hbase : attributeBase o "pop" X.env (eval o X.env) = eval o X.env := by rfl)
    (hfew : ((backTo cpos (starEach [e] X.env)).all (fun x => !x.1) && (backToKw cpos (keywordEach [] X.env)).all (fun x => x.1.isSome)
      && decide ([e].length + ([] : List Keyword).length + (if ([] : List Keyword).isEmpty then 0 else 1) < 30)) = true := by rfl)
    (hline : (apos.endLine == cpos.line) = true := by rfl) (hplain : (backTo cpos (starEach [] X.env)).any (·.1) = false := by rfl) :
    PE X (.Call (.Attribute o "pop" apos) [e] [] cpos) (tE G Z (eMeth isL oPopAt go ge)) :=
  pm_meth PySem.F.plainAttrs_list PySem.F.slot_list_pop PySem.F.type_list_pop L2.mt_popAt (fun R r e => isL_ok (X := X) R r e) (fun R r r2 q => popAt_read R r r2 q) ho he hs1 hbase hfew hline hplain
theorem findI_ok {k : Int} : ∀ {l : List Int} {j : Nat}, findI k l = some j → l[j]? = some k ∧ ∀ i, i < j → ∀ x, l[i]? = some x → x ≠ k
  | [], _, h => by cases h
  | x :: r, j, h => by
    unfold findI at h
    cases e : ieq x k with
    | true =>
      rw [e] at h
      cases h
      rw [ieq_iff] at e
      rw [of_decide_eq_true e]
      exact ⟨rfl, fun i hi => absurd hi (Nat.not_lt_zero _)⟩
    | false =>
      rw [e] at h
      rw [ieq_iff] at e
      have ne := of_decide_eq_false e
      dsimp only at h
      cases e2 : findI k r with
      | none => rw [e2] at h; cases h
      | some j' =>
        rw [e2] at h
        cases h
        obtain ⟨h1, h2⟩ := findI_ok e2
        refine ⟨by simpa using h1, fun i hi y hy => ?_⟩
        cases i with
        | zero =>
          have : x = y := by simpa using hy
          rw [← this]
          exact ne
        | succ i => exact h2 i (by omega) y (by simpa using hy)
theorem index_read {m : Mp} {h : AH} {H : Hp} {w w2 : W} {v v2 : V} {Q : VK} (hK : X.K = G.K) (R : Rel G m h H) (r : VR G m w v) (r2 : VR G m w2 v2) (q : Sat G m (fun _ _ _ => False) (VR G) (ofO (oIndex w w2 h)) Q) : L2.rIndex X.K v [v2] H Q := by
  unfold oIndex at q
  cases e : lst? h w with
  | none => rw [e] at q; cases w2 <;> exact q.elim
  | some ws =>
    rw [e] at q
    cases w2 with
    | int k =>
      dsimp only at q
      cases e2 : wints ws with
      | none => rw [e2] at q; exact q.elim
      | some is =>
        rw [e2] at q
        dsimp only at q
        cases e3 : findI k is with
        | none => rw [e3] at q; exact q.elim
        | some j =>
          rw [e3] at q
          obtain ⟨a, vs, rfl, rv, hq⟩ := lst_ok hK R r e
          rw [wints_ok rv e2] at hq
          cases r2
          obtain ⟨h1, h2⟩ := findI_ok e3
          refine ⟨a, is.map V.int, .int k, j, .int k, rfl, rfl, hq, rfl, by simp [L2.flatV], by rw [List.getElem?_map, h1]; rfl, by simp [L2.eqV], fun i z hi hz => ?_, q m H _ (.refl m) R rfl⟩
          rw [List.getElem?_map] at hz
          cases e4 : is[i]? with
          | none => rw [e4] at hz; cases hz
          | some x =>
            rw [e4] at hz
            cases hz
            simpa [L2.eqV] using h2 i hi x e4
    | _ => exact q.elim
theorem pm_index {o e : Expr} {apos cpos : Pos} {go ge : EM} (ho : PE X o (tE G Z go)) (he : PE X e (tE G Z ge)) (hK : X.K = G.K) (hs1 : starEach [e] X.env = (false, eval e X.env) :: starEach [] X.env := by rfl)
    (hbase : attributeBase o "index" X.env (eval o X.env) = eval o X.env := by rfl)
    (hfew : ((backTo cpos (starEach [e] X.env)).all (fun x => !x.1) && (backToKw cpos (keywordEach [] X.env)).all (fun x => x.1.isSome)
      && decide ([e].length + ([] : List Keyword).length + (if ([] : List Keyword).isEmpty then 0 else 1) < 30)) = true := by rfl)
    (hline : (apos.endLine == cpos.line) = true := by rfl) (hplain : (backTo cpos (starEach [] X.env)).any (·.1) = false := by rfl) :
    PE X (.Call (.Attribute o "index" apos) [e] [] cpos) (tE G Z (eMeth isL oIndex go ge)) :=
  pm_meth PySem.F.plainAttrs_list PySem.F.slot_list_index PySem.F.type_list_index L2.mt_index (fun R r e => isL_ok (X := X) R r e) (fun R r r2 q => index_read hK R r r2 q) ho he hs1 hbase hfew hline hplain
def countI (k : Int) : List Int → Nat
  | [] => 0
  | x :: r => match ieq x k with
    | true => countI k r + 1
    | false => countI k r
theorem countI_ok (k : Int) : ∀ l : List Int, countI k l = l.count k
  | [] => rfl
  | x :: r => by
    unfold countI
    rw [List.count_cons, countI_ok k r]
    cases e : ieq x k with
    | true =>
      rw [ieq_iff] at e
      rw [of_decide_eq_true e]
      simp
    | false =>
      rw [ieq_iff] at e
      simp [of_decide_eq_false e]
def oCount : Op2 := fun a b h => match lst? h a, b with
  | some ws, .int k => (match wints ws with
    | some is => some (.int (countI k is), h)
    | none => none)
  | _, _ => none
theorem count_read {m : Mp} {h : AH} {H : Hp} {w w2 : W} {v v2 : V} {Q : VK} (hK : X.K = G.K) (R : Rel G m h H) (r : VR G m w v) (r2 : VR G m w2 v2) (q : Sat G m (fun _ _ _ => False) (VR G) (ofO (oCount w w2 h)) Q) : L2.rCntI X.K v [v2] H Q := by
  unfold oCount at q
  cases e : lst? h w with
  | none => rw [e] at q; cases w2 <;> exact q.elim
  | some ws =>
    rw [e] at q
    cases w2 with
    | int k =>
      dsimp only at q
      cases e2 : wints ws with
      | none => rw [e2] at q; exact q.elim
      | some is =>
        rw [e2] at q
        obtain ⟨a, vs, rfl, rv, hq⟩ := lst_ok hK R r e
        rw [wints_ok rv e2] at hq
        cases r2
        exact ⟨a, is, k, rfl, rfl, hq, q m H _ (.refl m) R (by rw [countI_ok]; rfl)⟩
    | _ => exact q.elim
theorem pm_count {o e : Expr} {apos cpos : Pos} {go ge : EM} (ho : PE X o (tE G Z go)) (he : PE X e (tE G Z ge)) (hK : X.K = G.K) (hs1 : starEach [e] X.env = (false, eval e X.env) :: starEach [] X.env := by rfl)
    (hbase : attributeBase o "count" X.env (eval o X.env) = eval o X.env := by rfl)
    (hfew : ((backTo cpos (starEach [e] X.env)).all (fun x => !x.1) && (backToKw cpos (keywordEach [] X.env)).all (fun x => x.1.isSome)
      && decide ([e].length + ([] : List Keyword).length + (if ([] : List Keyword).isEmpty then 0 else 1) < 30)) = true := by rfl)
    (hline : (apos.endLine == cpos.line) = true := by rfl) (hplain : (backTo cpos (starEach [] X.env)).any (·.1) = false := by rfl) :
    PE X (.Call (.Attribute o "count" apos) [e] [] cpos) (tE G Z (eMeth isL oCount go ge)) :=
  pm_meth PySem.F.plainAttrs_list PySem.F.slot_list_count PySem.F.type_list_count L2.mt_lcount (fun R r e => isL_ok (X := X) R r e) (fun R r r2 q => count_read hK R r r2 q) ho he hs1 hbase hfew hline hplain
/-! ### backward loops -/
theorem jr_rvn {K : PySem.W.Frag} {m : Mp} {l : Nat} {n : Nat} {a : Addr} (ha : m.as[l]? = some a) : JR G m (.rvn l n) (L2.Itv K a n) := fun m' h H i x R => by
  unfold MIt.next
  dsimp only
  cases e0 : Nat.blt i n with
  | false =>
    refine ⟨fun _ => ?_, (fun _ _ z => nomatch z)⟩
    have e' : ¬ i < n := fun z => by
      have : Nat.blt i n = true := by simpa using z
      rw [e0] at this
      cases this
    exact Nat.le_of_not_lt e'
  | true =>
    dsimp only
    cases e : litems h l with
    | none => exact ⟨(fun z => nomatch z), (fun _ _ z => nomatch z)⟩
    | some ws =>
      obtain ⟨vs, r, hq⟩ := litems_of K R (x.at ha) e
      dsimp only
      rw [nth_get]
      cases e2 : ws[n - 1 - i]? with
      | none => exact ⟨(fun z => nomatch z), (fun _ _ z => nomatch z)⟩
      | some w =>
        refine ⟨(fun z => nomatch z), fun x h' z => ?_⟩
        cases z
        obtain ⟨v, e3, rv⟩ := vrs_get r e2
        refine ⟨⟨(show i < n by simpa using e0), vs, v, hq, e3⟩, fun v' H' y => ?_⟩
        obtain ⟨eH, f⟩ := y
        subst eH
        have e5 := (f vs hq).symm.trans e3
        cases e5
        exact ⟨m', .refl m', R, rv⟩
def iRevL (e : EM) : IM := fun σ h => (e σ h).bind fun x h1 => match x with
  | .ref l => (match litems h1 l with
    | some xs => .ok (.rvn l xs.length) h1
    | none => .no)
  | _ => .no
theorem pmi_rev {tg a : Expr} {g : EM} {p : Pos} (hg : Gl X "reversed") (hm : X.mg "reversed" = none) (ha : PE X a (tE G Z g)) (h1 : starEach (a :: []) X.env = (false, eval a X.env) :: starEach [] X.env := by rfl) (hs : starEach [a] X.env = [(false, eval a X.env)] := by rfl) :
    PI X tg (.Call (.Name "reversed" p) [a] [] pos) (tI G Z (iRevL g)) := pi_of (L2.pi_reversed hg hm (L2.pa_cons ha L2.pa_nil h1) hs) fun σ H Q h => by
  obtain ⟨m, h, s, R, S, q⟩ := h
  refine ⟨m, h, s, R, S, (Sat.bind (R := VR G) q).imp fun x H1 z => ?_⟩
  obtain ⟨m1, w, h1, l1, R1, ra, q1⟩ := z
  cases w with
  | ref l =>
    obtain ⟨a, ha, rfl⟩ := ra
    dsimp only at q1
    cases e : litems h1 l with
    | some ws =>
      rw [e] at q1
      obtain ⟨vs, r, hq⟩ := litems_of X.K R1 ha e
      exact ⟨a, vs, rfl, hq, q1 m1 H1 _ (.refl m1) R1 (by rw [vrs_len r]; exact jr_rvn ha)⟩
    | none =>
      rw [e] at q1
      exact q1.elim
  | _ => exact q1.elim
end
end Pm
/-! PmLc2: comprehensions with two fors; sets of ints. -/
namespace Pm
open PySem PySem.Spec
open L2 (V Hp HO Cx Inv PE PT PA PS PSs PW PI PG TE TT TA TS TG TI St VK XK WX Ends RelV Vals upd upd_same upd_ne Takes R2 OpR CallR MtR tOp tVar Vis Gl Room Binds It)
section
variable {X : Cx} {G : Gx} {Z : WX} {pos : Pos}
theorem lc2_read {K : PySem.W.Frag} {gi : IM} {t : Tg} {own : List Nat} {gc : CM} {gi1 : IM} {t1 : Tg} {own1 : List Nat} {gc1 : CM} {ge : EM} (ho : ∀ i ∈ t.slots, i ∈ own) (ho1 : ∀ i ∈ t1.slots, i ∈ own1) {σ : St} {H : Hp} {Q : VK} (h : tE G Z (eLc2 gi t own gc gi1 t1 own1 gc1 ge) σ H Q) :
    L2.tLc2 (tI G Z gi) (gT K t) (tC G Z0 gc) (tI G Z0 gi1) (gT K t1) (tC G Z0 gc1) (tE G Z0 ge) own own1 σ H Q := by
  obtain ⟨m, h, s, R, S, q⟩ := h
  refine ⟨m, h, s, R, S, (Sat.bind (R := JR G) q).imp fun J H1 z => ?_⟩
  obtain ⟨m1, M, h1, l1, R1, jr, q1⟩ := z
  intro D nD
  have S1 := (S.mono l1).wipe own
  refine ⟨fun i f H => ∃ m2 h2, (m1.snoc D).Le m2 ∧ Rel G m2 h2 H ∧ Sat G m2 (fun c d H => Z c d σ H) (VR G) (lcOut M t gc gi1 t1 own1 gc1 ge h1.n (swipe s own) f i h2) Q,
    ⟨1000001, m1.snoc D, _, .refl _, R1.new (c := .lst []) nD ⟨[], .nil, rfl⟩, q1.mono (m1.le_snoc D)⟩, ?_⟩
  have hD : (m1.snoc D).as[h1.n]? = some D := by
    show (m1.as ++ [D])[h1.n]? = some D
    rw [← R1.len]
    exact List.getElem?_concat_length
  rintro i f H2 ⟨m2, h2, l2, R2, q2⟩
  cases f with
  | zero => exact q2.elim
  | succ f =>
    unfold lcOut at q2
    obtain ⟨j1, j2⟩ := jr m2 h2 H2 i ((m1.le_snoc D).trans l2) R2
    cases e : M.next i h2 with
    | no => rw [e] at q2; exact q2.elim
    | stop =>
      rw [e] at q2
      exact .inl ⟨j1 e, q2 m2 H2 _ (.refl m2) R2 ⟨D, l2.at hD, rfl⟩⟩
    | yld x h3 =>
      rw [e] at q2
      dsimp only at q2
      obtain ⟨jg, jy⟩ := j2 x h3 e
      refine .inr ⟨jg, _, fun H3 z => ⟨f, Nat.lt_succ_self f, z⟩, fun v H3 y => ?_⟩
      obtain ⟨m3, l3, R3, rv⟩ := jy v H3 y
      have le3 := (m1.le_snoc D).trans (l2.trans l3)
      cases e4 : t.put x (swipe s own) h3 with
      | none => rw [e4] at q2; exact q2.elim
      | some s3 =>
        rw [e4] at q2
        dsimp only at q2
        have q3 := q2.mono l3
        refine gT_read R3 rv e4 (S1.mono le3) fun σ4 S4 hw => ⟨by rw [hw own ho, wipe_wipe], m3, h3, s3, R3, S4, ?_⟩
        cases e5 : gc s3 h3 with
        | no => rw [e5] at q3; exact q3.elim
        | exc _ _ _ => rw [e5] at q3; exact q3.elim
        | ok b h5 =>
          rw [e5] at q3
          intro m5 H5 b' l5 R5 eb
          cases eb
          cases b with
          | false => exact ⟨m5, h5, (l2.trans l3).trans l5, R5, q3.mono l5⟩
          | true =>
            dsimp only at q3
            have q5 := q3.mono l5
            refine ⟨m5, h5, s3, R5, S4.mono l5, ?_⟩
            cases e6 : gi1 s3 h5 with
            | no => rw [e6] at q5; exact q5.elim
            | exc _ _ _ => rw [e6] at q5; exact q5.elim
            | ok M1 h6 =>
              rw [e6] at q5
              intro m6 H6 J1 l6 R6 jr1
              have d6 := (l2.trans l3).trans (l5.trans l6)
              have S6 := (S4.mono (l5.trans l6)).wipe own1
              refine ⟨fun j k H => ∃ m7 h7, m6.Le m7 ∧ Rel G m7 h7 H ∧ Sat G m7 (fun c d H => Z c d σ H) (VR G) (lcIn M1 t1 gc1 ge h1.n (swipe s3 own1) (fun h => lcOut M t gc gi1 t1 own1 gc1 ge h1.n (swipe s own) f (i + 1) h) k j h7) Q, ⟨1000001, m6, h6, .refl m6, R6, q5.mono l6⟩, ?_⟩
              rintro j k H7 ⟨m7, h7, l7, R7, q7⟩
              cases k with
              | zero => exact q7.elim
              | succ k =>
                unfold lcIn at q7
                obtain ⟨i1, i2⟩ := jr1 m7 h7 H7 j l7 R7
                cases e7 : M1.next j h7 with
                | no => rw [e7] at q7; exact q7.elim
                | stop =>
                  rw [e7] at q7
                  exact .inl ⟨i1 e7, m7, h7, d6.trans l7, R7, q7⟩
                | yld x8 h8 =>
                  rw [e7] at q7
                  dsimp only at q7
                  obtain ⟨ig, iy⟩ := i2 x8 h8 e7
                  refine .inr ⟨ig, _, fun H8 z => ⟨k, Nat.lt_succ_self k, z⟩, fun v8 H8 y8 => ?_⟩
                  obtain ⟨m9, l9, R9, rv9⟩ := iy v8 H8 y8
                  cases e9 : t1.put x8 (swipe s3 own1) h8 with
                  | none => rw [e9] at q7; exact q7.elim
                  | some s9 =>
                    rw [e9] at q7
                    dsimp only at q7
                    have q9 := q7.mono l9
                    refine gT_read R9 rv9 e9 (S6.mono (l7.trans l9)) fun σ9 S9 hw9 => ⟨by rw [hw9 own1 ho1, wipe_wipe], m9, h8, s9, R9, S9, ?_⟩
                    cases ea : gc1 s9 h8 with
                    | no => rw [ea] at q9; exact q9.elim
                    | exc _ _ _ => rw [ea] at q9; exact q9.elim
                    | ok b ha =>
                      rw [ea] at q9
                      intro ma Ha b' la Ra eb
                      cases eb
                      cases b with
                      | false => exact ⟨ma, ha, (l7.trans l9).trans la, Ra, q9.mono la⟩
                      | true =>
                        dsimp only at q9
                        refine ⟨ma, ha, s9, Ra, S9.mono la, ?_⟩
                        have qa := q9.mono la
                        cases ec : ge s9 ha with
                        | no => rw [ec] at qa; exact qa.elim
                        | exc _ _ _ => rw [ec] at qa; exact qa.elim
                        | ok w hc =>
                          rw [ec] at qa
                          intro mc Hc u lc Rc ru
                          have dc := d6.trans ((l7.trans l9).trans (la.trans lc))
                          dsimp only at qa
                          cases ed : hc.get h1.n with
                          | none => rw [ed] at qa; exact qa.elim
                          | some cl =>
                            rw [ed] at qa
                            cases cl with
                            | lst acc =>
                              dsimp only at qa
                              obtain ⟨o, eo, cr⟩ := Rc.see (dc.at hD) ed
                              obtain ⟨vs, rs, rfl⟩ := cr
                              cases ee : Nat.blt acc.length 1000000 with
                              | false => rw [ee] at qa; exact qa.elim
                              | true =>
                                rw [ee] at qa
                                refine ⟨vs, eo, ?_, mc, _, (l7.trans l9).trans (la.trans lc), Rc.put (c' := .lst (acc ++ [w])) (dc.at hD) ed rfl ⟨vs ++ [u], vrs_app rs ru, rfl⟩, qa.mono lc⟩
                                rw [← vrs_len rs]
                                have lt : acc.length < 1000000 := by simpa using ee
                                exact Nat.lt_of_lt_of_le lt (by rw [sizeLine_eq]; decide)
                            | _ => exact qa.elim
theorem pm_lc2 {elt tg iter tg1 iter1 : Expr} {ifs ifs1 : List Expr} {scope : Scope} (own : List (Str × Nat)) (own1 : List Nat) {gi : IM} {t : Tg} {gc : CM} {gi1 : IM} {t1 : Tg} {gc1 : CM} {ge : EM} (hc : X.calm = true) (hN : X.N.Nodup) (hi : PI X tg iter (tI G Z gi)) (ok : L2.BlkOk X.N X.env.scope scope own)
    (hg : Blk X scope fun Y => PG Y tg (gT Y.K t)) (ht : Blk X scope fun Y => L2.PTs Y ifs (tC G Z0 gc)) (hi1 : Blk X scope fun Y => PI Y tg1 iter1 (tI G Z0 gi1)) (hg1 : Blk X scope fun Y => PG Y tg1 (gT Y.K t1)) (ht1 : Blk X scope fun Y => L2.PTs Y ifs1 (tC G Z0 gc1)) (he : Blk X scope fun Y => PE Y elt (tE G Z0 ge))
    (ho : ∀ i ∈ t.slots, i ∈ own.map (·.2) := by decide) (ho1 : ∀ i ∈ t1.slots, i ∈ own1 := by decide) (hv : ∀ i ∈ own1, i ∈ own.map (·.2) := by decide) (hs : ∀ x, foldedSetIterable iter X.env x = pure x := by intro _; rfl) (hs1 : ∀ env x, foldedSetIterable iter1 env x = pure x := by intro _ _; rfl) :
    PE X (.ListComp elt [⟨tg, iter, ifs, 0⟩, ⟨tg1, iter1, ifs1, 0⟩] scope pos) (tE G Z (eLc2 gi t (own.map (·.2)) gc gi1 t1 own1 gc1 ge)) := pe_of (L2.pe_lc2 hc hN hi ok hv hg ht hi1 hg1 ht1 he hs hs1) fun _ _ _ h => lc2_read ho ho1 h
theorem pms_setLc2 {i : Nat} {y : Str} {py : Pos} {elt tg iter tg1 iter1 : Expr} {ifs ifs1 : List Expr} {scope : Scope} (own : List (Str × Nat)) (own1 : List Nat) {gi : IM} {t : Tg} {gc : CM} {gi1 : IM} {t1 : Tg} {gc1 : CM} {ge : EM} {spos : Pos} (hc : X.calm = true) (hN : X.N.Nodup) (hi : PI X tg iter (tI G Z gi)) (ok : L2.BlkOk X.N X.env.scope scope own)
    (hg : Blk X scope fun Y => PG Y tg (gT Y.K t)) (ht : Blk X scope fun Y => L2.PTs Y ifs (tC G Z0 gc)) (hi1 : Blk X scope fun Y => PI Y tg1 iter1 (tI G Z0 gi1)) (hg1 : Blk X scope fun Y => PG Y tg1 (gT Y.K t1)) (ht1 : Blk X scope fun Y => L2.PTs Y ifs1 (tC G Z0 gc1)) (he : Blk X scope fun Y => PE Y elt (tE G Z0 ge))
    (hsw : swapsWith (.ListComp elt [⟨tg, iter, ifs, 0⟩, ⟨tg1, iter1, ifs1, 0⟩] scope pos) (some (.Name y py)) spos.line X.env = pure true) (hy : X.N[i]? = some y := by rfl) (hyl : X.env.scope.names.lookup y = some .local := by rfl)
    (ho : ∀ i ∈ t.slots, i ∈ own.map (·.2) := by decide) (ho1 : ∀ i ∈ t1.slots, i ∈ own1 := by decide) (hv : ∀ i ∈ own1, i ∈ own.map (·.2) := by decide) (hs : ∀ x, foldedSetIterable iter X.env x = pure x := by intro _; rfl) (hs1 : ∀ env x, foldedSetIterable iter1 env x = pure x := by intro _ _; rfl) :
    PS X (.Assign [.Name y py] (.ListComp elt [⟨tg, iter, ifs, 0⟩, ⟨tg1, iter1, ifs1, 0⟩] scope pos) spos) (tS G Z (sSet i (eLc2 gi t (own.map (·.2)) gc gi1 t1 own1 gc1 ge))) := ps_of (L2.ps_setLc2 hc hN hy hyl hsw hi ok hv hg ht hi1 hg1 ht1 he hs hs1) fun D σ H h =>
  lc2_read ho ho1 (sr_read h fun w v H1 m1 h1 s r R1 S1 q => q m1 _ H1 (.refl m1) R1 (SlR.put (a := some w) (v := some v) ⟨v, rfl, r⟩ i S1))
/-! ### set(xs), len(s) of ints -/
def dedupI (l : List Int) : List Int := l.foldl (fun acc x => match memI x acc with | true => acc | false => acc ++ [x]) []
where memI (x : Int) : List Int → Bool
  | [] => false
  | y :: r => match ieq y x with
    | true => true
    | false => memI x r
theorem memI_ok (x : Int) : ∀ l : List Int, dedupI.memI x l = decide (x ∈ l)
  | [] => by simp [dedupI.memI]
  | y :: r => by
    unfold dedupI.memI
    cases e : ieq y x with
    | true =>
      rw [ieq_iff] at e
      rw [of_decide_eq_true e]
      simp
    | false =>
      rw [ieq_iff] at e
      have ne := of_decide_eq_false e
      rw [memI_ok x r]
      have : (x ∈ y :: r) ↔ x ∈ r := by
        rw [List.mem_cons]
        exact ⟨fun h => h.resolve_left fun z => ne z.symm, .inr⟩
      simp [this]
theorem step_eq (acc : List Int) (x : Int) : PyProof.Rows.step_dedup acc x = (match dedupI.memI x acc with | true => acc | false => acc ++ [x]) := by
  rw [memI_ok]
  unfold PyProof.Rows.step_dedup
  by_cases h : x ∈ acc <;> simp [h]
theorem dedup_first (ns : List Int) : PyProof.Rows.firstMet (fun i => ns.getD i 0) ns.length = dedupI ns := by
  unfold PyProof.Rows.firstMet dedupI
  have e : (List.range ns.length).map (fun i => ns.getD i 0) = ns := by
    apply List.ext_getElem?
    intro i
    rw [List.getElem?_map]
    by_cases h : i < ns.length
    · rw [List.getElem?_range h]
      simp [h]
    · rw [List.getElem?_eq_none (by simpa using Nat.le_of_not_lt h), List.getElem?_eq_none (Nat.le_of_not_lt h)]
      rfl
  rw [e]
  congr 1
  funext acc x
  exact step_eq acc x
theorem dedup_nodup (ns : List Int) : (dedupI ns).Nodup := by
  unfold dedupI
  suffices h : ∀ (l acc : List Int), acc.Nodup → (l.foldl (fun acc x => match dedupI.memI x acc with | true => acc | false => acc ++ [x]) acc).Nodup from h ns [] .nil
  intro l
  induction l with
  | nil => intro acc h; exact h
  | cons x r ih =>
    intro acc h
    rw [List.foldl_cons]
    apply ih
    cases e : dedupI.memI x acc with
    | true => exact h
    | false =>
      rw [memI_ok] at e
      have nm := of_decide_eq_false e
      show (acc ++ [x]).Nodup
      rw [List.nodup_append]
      refine ⟨h, by simp, fun a ha b hb => ?_⟩
      rw [List.mem_singleton.mp hb]
      exact fun z => nm (z ▸ ha)
def oSetI : OpN := oInts fun is h => match Nat.blt is.length 4000 with
  | true => some (.ref h.n, h.new (.set (dedupI is)))
  | false => none
theorem cr_setI (hc : X.calm = true) (hK : X.K = G.K := by rfl) : CallR X (.type "set") (rN G oSetI) := fun pins s σ H xs us Q I rx h => by
  obtain ⟨m, h, a, is, R, rfl, hq, q⟩ := ints_read hK h
  cases e : Nat.blt is.length 4000 with
  | false => rw [e] at q; exact q.elim
  | true =>
    rw [e] at q
    have lt : is.length < 4000 := Nat.le_of_ble_eq_true e
    rw [L2.Vals.ref1 rx]
    obtain ⟨its, r, pl, hz⟩ := I.list hq
    have hlen : its.toArray.size = is.length := by rw [List.size_toArray, ← r.length, List.length_map]
    refine PySem.call_set_list (I.ok.hd hc) pl.isList (by simpa using RZ.intsAre_vals r) (by rw [hlen]; unfold scanBound; omega) fun h' tk hS hk => ?_
    rw [hlen, dedup_first] at hS
    have kp : ∀ b o, s.heap.get? b = some o → h'.get? b = some o := fun b o e => hk b o (Heap.lt_size e) e
    have ef : (fun k' => (dedupI is).any (· == k')) = fun i => decide (i ∈ dedupI is) := by
      funext k
      rw [Bool.eq_iff_iff, List.any_eq_true, decide_eq_true_iff]
      exact ⟨fun ⟨x, hx, e⟩ => by rw [← (beq_iff_eq.mp e)]; exact hx, fun hx => ⟨k, hx, by simp⟩⟩
    rw [ef] at hS
    have hn : H s.heap.objs.size = none := I.hok.fresh (Nat.le_refl _)
    exact ⟨.ref _, _, I.laid (t' := tk) kp (Nat.le_refl _) (o := .set (fun i => decide (i ∈ dedupI is)) (dedupI is).length) hS, rfl, new_sat (c := .set (dedupI is)) R hn ⟨dedup_nodup is, rfl⟩ q⟩
theorem cr_len2 (hK : X.K = G.K := by rfl) : CallR X (.builtin "len") (rN G oLen2) := fun pins s σ H xs us Q I rx h => by
  obtain ⟨m, h, as, R, rs, q⟩ := h
  have back : oLen2 as h = oLen as h → _ := fun e => cr_len (X := X) (G := G) hK pins s σ H xs us Q I rx ⟨m, h, as, R, rs, by rw [← e]; exact q⟩
  unfold oLen2 at back
  match as, rs with
  | [.ref l], .cons (b := v) r .nil =>
    cases e : h.get l with
    | none => exact back (by dsimp only; rw [e])
    | some c =>
      cases c with
      | set ys =>
        unfold oLen2 at q
        dsimp only at q
        rw [e] at q
        dsimp only at q
        cases e2 : Nat.blt ys.length 4000 with
        | false => rw [e2] at q; exact q.elim
        | true =>
          rw [e2] at q
          have lt : ys.length < 4000 := Nat.le_of_ble_eq_true e2
          obtain ⟨a, ha, rfl⟩ := r
          obtain ⟨_, o1, nd, rfl⟩ := R.see ha e
          rw [L2.Vals.ref1 rx]
          obtain ⟨o, es, ep, t, ho, hex, hd, _, _, _, hf, hn⟩ := (show s.heap.SetOf (intKind X.prog X.w) a _ _ from I.hok a _ o1)
          exact PySem.call_len_set ho hex hd hf (by rw [hn]; omega) ⟨.int ys.length, H, I.tok _, ⟨_, by rw [hn]⟩, q m H _ (.refl m) R rfl⟩
      | _ => exact back (by dsimp only; rw [e])
  | [], .nil => exact back rfl
  | [.non], .cons _ .nil => exact back rfl
  | [.bl _], .cons _ .nil => exact back rfl
  | [.int _], .cons _ .nil => exact back rfl
  | [.sym _ _ _], .cons _ .nil => exact back rfl
  | [.txt _], .cons _ .nil => exact back rfl
  | [.ty _], .cons _ .nil => exact back rfl
  | [.glo _], .cons _ .nil => exact back rfl
  | [.scr], .cons _ .nil => exact back rfl
  | [.raw _], .cons _ .nil => exact back rfl
  | w :: _ :: _, .cons _ (.cons _ _) => exact back (by cases w <;> rfl)
end
theorem bt_set : bootBuiltins "set" = some (.type "set") := by decide +kernel
end Pm
/-! PmKey: sorted(xs, key=lambda x: x[0]) of tuples. -/
namespace Pm
open PySem PySem.Spec PyProof.Rows
open PySem.W (EachIs AllAlike Sortable SortsAt sortVals keyToks keyToksAll alike alikeAll dataLe KeyedOut keyedOut_each TotalLe sortLe dataKind kla_obj kla_fn each_snoc)
open L2 (V Hp HO Cx Inv PE PT PA PS PSs PW PI PG TE TT TA TS TG TI St VK XK WX Ends RelV Vals upd upd_same upd_ne Takes R2 OpR CallR MtR tOp tVar Vis Gl Room Binds cloFrom)
open LamX (CodeO Tabs TabS TabB ExtN)
structure KeyL (params : Arguments) (bd : Expr) (scope : Scope) (x : Str) : Prop where
  body : ∃ p1 p2 p3 j, bd = .Subscript (.Name x p1) (.Constant (.int 0) j p2) p3
  kind : scope.kind = .function
  co : scope.isCoroutine = false
  gen : scope.isGenerator = false
  nocell : ∀ y ∈ scope.names, y.2 ≠ .cell
  loc : scope.names.lookup x = some .local
  free : noFree scope = true
  bind : ∀ (q : Str) (cl : List (Str × Addr)) (pm cdv ctv : Value) (u : Value), bindArgs (kla_fn "<lambda>" q params bd scope cl pm cdv ctv) ⟨[u], []⟩ = pure [(x, u)]
  hd : (x == ("__debug__" : Str)) = false
section
variable {prog : Program} {w : World} {A : Around} {s : Shared}
theorem key_call {f t c : Addr} {q x : Str} {params : Arguments} {body : Expr} {scope : Scope} {pm ctv v0 : Value} {cl : List (Str × Addr)} {its : Array Value} (L : KeyL params body scope x) (hd : A.depth < recursionLimit) (lim : s.heap.NoLimit) (ho : s.heap.get? f = some (kla_obj "<lambda>" q params body scope cl pm c ctv)) (hc : s.heap.CodeRec (.ref c) q)
    (ht : IsTup s.heap t its) (h0 : its[0]? = some v0) : wpAny (model prog w) A (call (.ref f) [.ref t]) (fun r s' => r = v0 ∧ ∃ g tk, s' = { s with heap := g, toks := tk } ∧ ∀ b o, s.heap.get? b = some o → g.get? b = some o) (fun _ _ => False) s := by
  obtain ⟨p1, p2, p3, j, rfl⟩ := L.body
  refine wpAny_call (codeAny_mono (PySem.W.kla_callFunE (R := fun r s' => r = .ok (.ret v0) ∧ ∃ g tk, s' = { s with heap := g, toks := tk } ∧ ∀ b o, s.heap.get? b = some o → g.get? b = some o) hd ho rfl L.co L.gen rfl hc ?_) fun r s' hq => ?_)
  · have hb := L.bind q cl pm (.ref c) ctv (.ref t)
    show wpAny _ _ (bindArgs (kla_fn "<lambda>" q params _ scope cl pm (.ref c) ctv) ⟨[.ref t], []⟩) _ _ _
    rw [hb]
    refine wpAny_pure (wpAny_newFunctionEnv L.nocell (fun y hy => by rw [List.mem_singleton.mp hy]; exact L.loc) (fun h₁ hns hsb => ⟨lim.fresh _ hsb, ?_⟩) L.kind)
    have kp : ∀ b o, s.heap.get? b = some o → h₁.get? b = some o := fun b o e => hsb.extBut b o (Nat.ne_of_lt (Heap.lt_size e)) (Heap.get?_push_of_some _ e)
    refine PySem.W.kla_codeExpr ?_
    refine wpAny_Subscript_Constant_late (wpAny_Name (wpAny_loadName_local (v := Value.ref t) (m := fun y => [(x, Value.ref t)].reverse.lookup y) L.kind L.loc hns (by simp) ?_) L.hd) (by intro _ _; rfl)
    refine wpAny_Constant_int ?_
    have ht1 : IsTup h₁ t its := by
      obtain ⟨o, e, r⟩ := ht
      exact ⟨o, kp _ _ e, r⟩
    refine ⟨"tuple", _, PySem.F.slot_tuple_getitem.lookup, IsTup.typeIs ht1, ?_⟩
    have lt : 0 < its.size := (Array.getElem?_eq_some_iff.mp h0).1
    exact getItem_tuple ht1 (by decide) (by decide) (by unfold seqIndex?; simp [lt]) h0 ⟨rfl, _, _, rfl, kp⟩
  · obtain ⟨rfl, z⟩ := hq
    exact ⟨rfl, z⟩
theorem sort_key {E : Value → Shared → Prop} {Q : Value → Shared → Prop} {h₀ : Heap} {L l fq : Addr} {m : Str → Option Value} {vs : List Value} {kz : List PyData} (F : Fr h₀ L s.heap m) (hl : s.heap.IsList l vs.toArray) (hZ : vs.length ≤ sizeLine) (hlen : kz.length = vs.length) (al : AllAlike kz) (so : Sortable kz) (hu : ∀ d, d ∈ kz → A.units + 2 + d.depth < cLine)
    (turn : ∀ (i : Nat) (v : Value) (k : PyData), vs[i]? = some v → kz[i]? = some k → ∀ (g : Heap) (tk : Nat), (∀ b o, s.heap.get? b = some o → g.get? b = some o) →
      wpAny (model prog w) A.in1.in1 (call (.ref fq) [v]) (fun r s' => (∃ as, Reads s.heap r k as) ∧ ∃ g' tk', s' = { s with heap := g', toks := tk' } ∧ ∀ b o, g.get? b = some o → g'.get? b = some o) (fun _ _ => False) { s with heap := g, toks := tk })
    (fin : ∀ (g : Heap) (tk c : Nat) (out : List Value) (p : Addr), s.heap.objs.size ≤ p → (∀ b o, b ≠ L → s.heap.get? b = some o → g.get? b = some o) → Fr h₀ L g m → g.get? p = some (seqObj "list" out.toArray c) → KeyedOut false kz vs out → Q (.ref p) { s with heap := g, toks := tk }) :
    wpAny (model prog w) A (call (.builtin "sorted") [.ref l] [(Str.ofString "key", .ref fq)]) Q E s := by
  refine PySem.W.sorted_of_sort hl hZ (ksk_s1 _ _) (fun x => by unfold argsOk; kernel_rfl) fun E' => ?_
  rw [ksk_t1]
  have n0 : s.heap.objs.size + 1 < (PySem.W.copyHeap s.heap vs).objs.size := Heap.lt_size (PySem.W.copyHeap_at s.heap vs)
  have ho := PySem.W.copyHeap_at s.heap vs
  obtain ⟨e1, ho1⟩ : ∃ e1, ((PySem.W.copyHeap s.heap vs).update (s.heap.objs.size + 1) (Obj.mapSeq fun _ => (#[] : Array Value))).get? (s.heap.objs.size + 1) = some (seqObj "list" #[] e1) := ⟨_, get?_update_seq ho fun _ => #[]⟩
  unfold ksk_tree
  refine wpAny_bind (listItems_at (s := { s with heap := PySem.W.copyHeap s.heap vs }) ho rfl ?_)
  refine wpAny_bind (listUpdate_at (s := { s with heap := PySem.W.copyHeap s.heap vs }) ho rfl ?_ (by rw [List.size_toArray]; exact hZ) (Nat.zero_le _))
  refine wpAny_bind (seqEpoch_at ho1 rfl ?_)
  refine wpAny_bind (wpAny_newTuple ?_ (by show vs.length ≤ _; exact hZ))
  refine wpAny_bind (wpAny_newList ?_ (Nat.zero_le _))
  refine wpAny_holding ?_
  -- the heap in which the keys are asked
  obtain ⟨gA, egA⟩ : ∃ gA, gA = PySem.W.sortingHeap (PySem.W.copyHeap s.heap vs) (s.heap.objs.size + 1) vs := ⟨_, rfl⟩
  have oldA : ∀ b o, s.heap.get? b = some o → gA.get? b = some o := fun b o e => by rw [egA]; exact PySem.W.sorting_copy_old e
  have ekS : (((PySem.W.copyHeap s.heap vs).update (s.heap.objs.size + 1) (Obj.mapSeq fun _ => (#[] : Array Value))).push (seqObj "tuple" vs.toArray 0)).objs.size = (PySem.W.copyHeap s.heap vs).objs.size + 1 := by rw [size_push', Heap.size_update]
  obtain ⟨kS, hkS⟩ : ∃ kS, kS = (((PySem.W.copyHeap s.heap vs).update (s.heap.objs.size + 1) (Obj.mapSeq fun _ => (#[] : Array Value))).push (seqObj "tuple" vs.toArray 0)).objs.size := ⟨_, rfl⟩
  have atK : gA.get? kS = some (seqObj "list" #[] 0) := by rw [egA, hkS]; exact Heap.get?_push_size _ rfl
  have atA : gA.get? (s.heap.objs.size + 1) = some (seqObj "list" #[] e1) := by rw [egA]; exact Heap.get?_push_of_some _ (Heap.get?_push_of_some _ ho1)
  have neK : kS ≠ s.heap.objs.size + 1 := by omega
  have bigK : s.heap.objs.size ≤ kS := by omega
  show wpAny _ _ (ksk_rest (s.heap.objs.size + 1) (.ref fq) false vs.toArray e1 (.ref (((PySem.W.copyHeap s.heap vs).update (s.heap.objs.size + 1) (Obj.mapSeq fun _ => (#[] : Array Value))).push (seqObj "tuple" vs.toArray 0)).objs.size)) _ _ { s with heap := PySem.W.sortingHeap (PySem.W.copyHeap s.heap vs) (s.heap.objs.size + 1) vs }
  rw [← hkS, ← egA]
  unfold ksk_rest
  refine wpAny_bind (wpAny_rule ?_)
  first
    | rw [List.forIn_toArray]
    | (rw [← Array.forIn_toList]; simp only [List.toList_toArray])
    | rw [← Array.forIn_toList]
  refine wpAny_bind (ksk_fold (fun i s' => ∃ g tk kA e, s' = { s with heap := g, toks := tk } ∧ (∀ b o, s.heap.get? b = some o → g.get? b = some o) ∧ g.get? kS = some (seqObj "list" kA e) ∧ g.get? (s.heap.objs.size + 1) = some (seqObj "list" #[] e1) ∧ EachIs (fun v k => ∃ as, Reads s.heap v k as) kA.toList (kz.take i)) vs 0 _
    ⟨gA, s.toks, #[], 0, rfl, oldA, atK, atA, by rw [List.take_zero]; exact EachIs.nil⟩ ?step ?done)
  case step =>
    rintro j x s' hx ⟨g, tk, kA, e, rfl, old, aK, aA, hk⟩
    simp only [Nat.zero_add] at hk ⊢
    have hj : j < vs.length := (List.getElem?_eq_some_iff.mp hx).1
    obtain ⟨k, hkj⟩ : ∃ k, kz[j]? = some k := ⟨_, List.getElem?_eq_getElem (by omega)⟩
    have hz : kA.size ≤ vs.length := by
      have h1 := hk.length
      rw [Array.length_toList, List.length_take] at h1
      omega
    refine wpAny_bind (wpAny_attempt (wpAny_mono (turn j x k hx hkj g tk old) (fun v s'' he => ?_) fun _ _ hF => hF.elim))
    obtain ⟨hkey, g2, tk2, rfl, kp⟩ := he
    try dsimp only
    have aK2 := kp _ _ aK
    have aA2 := kp _ _ aA
    have sb := Heap.SameBut.update g2 kS (Obj.mapSeq (·.push v))
    obtain ⟨c2, hc2⟩ : ∃ c2, (g2.update kS (Obj.mapSeq (·.push v))).get? kS = some (seqObj "list" (kA.push v) c2) := ⟨_, get?_update_seq aK2 (·.push v)⟩
    have ek : kz.take (j + 1) = kz.take j ++ [k] := by rw [List.take_add_one, hkj]; simp
    have ea : (kA.push v).toList = kA.toList ++ [v] := by simp
    refine wpAny_bind (listUpdate_at aK2 rfl ?_ (Nat.le_trans hz hZ) (Nat.le_trans (Nat.le_of_eq (Array.size_push ..)) (Nat.succ_le_succ (Nat.le_trans hz hZ))))
    refine wpAny_pure ⟨rfl, _, _, kA.push v, c2, rfl, fun b o eb => ?_, hc2, (sb.2 _ (Ne.symm neK)).trans aA2, by rw [ea, ek]; exact each_snoc hkey hk⟩
    have lt := Heap.lt_size eb
    exact (sb.2 b (Nat.ne_of_lt (Nat.lt_of_lt_of_le lt bigK))).trans (kp _ _ (old b o eb))
  case done =>
    rintro s' ⟨g, tk, kA, e, rfl, old, aK, aA, hk⟩
    have e3 : kz.take (0 + vs.length) = kz := List.take_of_length_le (by omega)
    rw [e3] at hk
    have hk' : EachIs (fun v k => ∃ as, Reads g v k as) kA.toList kz := hk.mono fun v k ⟨as, r⟩ => ⟨as, PyProof.Rows.Reads.keeps old r⟩
    have hsz : kA.size = vs.length := by
      have h1 := hk'.length
      rw [Array.length_toList] at h1
      omega
    have F1 : Fr h₀ L g m := F.kept old
    have lL : L < s.heap.objs.size := F.ns.lt
    have N0 : News h₀ L s.heap (L2.allNews h₀ s.heap L) := L2.news_all
    have none0 : ∀ b, s.heap.objs.size ≤ b → h₀.get? b = none := fun b hb => Heap.get?_none_of_le (Nat.le_trans F.above (Nat.le_trans (Nat.le_of_lt lL) hb))
    have N1 : News h₀ L g (L2.allNews h₀ s.heap L ++ [(kS, seqObj "list" kA e), (s.heap.objs.size + 1, seqObj "list" #[] e1)]) := fun p hp => by
      rcases List.mem_append.mp hp with hp | hp
      · exact ⟨old _ _ (N0 p hp).1, (N0 p hp).2⟩
      · rcases List.mem_cons.mp hp with rfl | hp
        · exact ⟨aK, Nat.ne_of_gt (Nat.lt_of_lt_of_le lL bigK), none0 _ bigK⟩
        · rw [List.mem_singleton.mp hp]
          exact ⟨aA, Nat.ne_of_gt (Nat.lt_succ_of_lt lL), none0 _ (Nat.le_succ _)⟩
    have offN : ∀ p ∈ L2.allNews h₀ s.heap L, p.1 < s.heap.objs.size := fun p hp => Heap.lt_size (N0 p hp).1
    try dsimp only
    refine wpAny_bind (listItems_at aK rfl ?_)
    refine PySem.W.key_end (κ := dataKind g kz) (s := { s with heap := g, toks := tk }) F1 N1 neK (fun p hp => Nat.ne_of_lt (Nat.lt_of_lt_of_le (offN p hp) bigK)) (fun p hp => Nat.ne_of_lt (Nat.lt_succ_of_lt (offN p hp)))
      (SortsAt.data (s := { s with heap := g, toks := tk }) hk' al so fun d hd => by
        have h1 := hu d hd
        show A.units + 1 + 1 + d.depth < cLine
        omega) hsz hZ fun g3 tk3 c F3 N3 => ⟨rfl, ?_⟩
    refine fin g3 tk3 c _ _ (Nat.le_succ _) (fun b o nb eb => ?_) F3 (N3 _ List.mem_cons_self).1 ⟨g, kA.toList, al, rfl, hk'⟩
    cases e0 : h₀.get? b with
    | some o' =>
      have := F.keep b o' e0
      rw [eb] at this
      cases this
      exact F3.keep b _ e0
    | none => exact (N3 (b, o) (List.mem_cons_of_mem _ (L2.mem_allNews nb e0 eb))).1
end
/-! ### the rule -/
theorem ns_uniq {h : Heap} {a : Addr} {m m' : Str → Option Value} (x : h.Ns a m) (y : h.Ns a m') : m = m' := by
  obtain ⟨o, es, ep, e1, e2, _, e3⟩ := x
  obtain ⟨o', es', ep', f1, f2, _, f3⟩ := y
  rw [e1] at f1
  cases f1
  rw [e2] at f2
  cases f2
  funext n
  rw [← e3 n, ← f3 n]
def kIts (h : AH) : List W → Option (List SIt)
  | [] => some []
  | w :: r => match w with
    | .ref t => (match h.get t with
      | some (.tup (z :: _)) => (match rd 60 h z with
        | none => none
        | some d => match d.toks with
          | none => none
          | some k => match kIts h r with
            | none => none
            | some l => some ((d, k, w) :: l))
      | _ => none)
    | _ => none
def oSortK : Op1 := fun x h => match lst? h x with
  | none => none
  | some ys => match kIts h ys with
    | none => none
    | some l => match allAlk l && (sortB l && dpB l) with
      | true => some (.ref h.n, h.new (.lst ((isG leI l).map fun p => p.2.2)))
      | false => none
structure KOk (G : Gx) (K : PySem.W.Frag) (H : Hp) (m : Mp) (p : SIt) (v : V) : Prop where
  tk : keyToks (p.1.g G.ρ) = p.2.1.map Sum.inl
  vr : VR G m p.2.2 v
  it : ∃ (t : Addr) (z : V) (zs : List V), v = .ref t ∧ H t = some (.tup (z :: zs)) ∧ L2.Dp K H z (p.1.g G.ρ)
theorem kIts_ok {G : Gx} {m : Mp} {h : AH} {H : Hp} {K : PySem.W.Frag} (R : Rel G m h H) : ∀ {ws : List W} {vs : List V} {l : List SIt}, kIts h ws = some l → VRs G m ws vs → Paired (KOk G K H m) l vs
  | [], _, l, e, .nil => by
    cases e
    exact .nil
  | w :: r, _, l, e, .cons q t => by
    unfold kIts at e
    cases w with
    | ref lw =>
      dsimp only at e
      cases e0 : h.get lw with
      | none => rw [e0] at e; cases e
      | some c =>
        rw [e0] at e
        cases c with
        | tup ws =>
          cases ws with
          | nil => cases e
          | cons z zs =>
            dsimp only at e
            cases e1 : rd 60 h z with
            | none => rw [e1] at e; cases e
            | some d =>
              rw [e1] at e
              dsimp only at e
              cases e2 : d.toks with
              | none => rw [e2] at e; cases e
              | some k =>
                rw [e2] at e
                dsimp only at e
                cases e3 : kIts h r with
                | none => rw [e3] at e; cases e
                | some l' =>
                  rw [e3] at e
                  cases e
                  obtain ⟨a, ha, rfl⟩ := q
                  obtain ⟨_, o1, us, ru, rfl⟩ := R.see ha e0
                  cases ru with
                  | cons rz rzs => exact .cons ⟨toks_ok d k e2, ⟨a, ha, rfl⟩, a, _, _, rfl, o1, rd_ok R _ _ _ _ e1 rz⟩ (kIts_ok R e3 t)
        | _ => cases e
    | _ => cases e
theorem Rel.grow {G : Gx} {m : Mp} {h : AH} {H H1 : Hp} (R : Rel G m h H) (ex : ExtN H H1) (tb : Tabs G.tt H1) : Rel G m h H1 :=
  ⟨R.pre, R.len, R.act, R.nd, fun l a e => let ⟨c, o, e1, e2, e3⟩ := R.cell l a e; ⟨c, o, e1, ex _ _ e2 (cr_tbl e3), e3⟩, tb, by
    rcases R.scr with ⟨ob, z⟩ | q
    · exact .inl ⟨ob, ex _ _ z fun ps y => nomatch y⟩
    · exact .inr q, R.sn, fun l a i act e z => (R.lam l a i act e z).mono (.refl _) fun b φ z => ex _ _ z fun ps y => nomatch y⟩
section
variable {X : Cx} {G : Gx} {Z : WX} {pos : Pos} {params : Arguments} {body : Expr} {scope : Scope} {q x : Str}
def KeyO (H : Hp) (params : Arguments) (body : Expr) (scope : Scope) (q : Str) (f : Addr) : Prop := ∃ c', H f = some (LamO f ⟨"<lambda>", q, params, [], scope, [], c'⟩ body) ∧ H c' = some (CodeO c' q)
theorem pe_lamK {lpos : Pos} {c P : Addr} (TB : TabB X.base X.mg c P) (hm : (P, q) ∈ G.tt) (hu : ∀ p ∈ G.tt, p.1 = P → p.2 = q) (nf : noFree scope = true) (hcode : X.env.code = .ref c := by rfl) (hq : X.env.qual ++ "<lambda>" = q := by rfl) (hdef : defaultsOf params X.env = ([], []) := by rfl) :
    PE X (.Lambda params body scope lpos) (fun σ H Q => Tabs G.tt H ∧ ∀ f H1, ExtN H H1 → Tabs G.tt H1 → KeyO H1 params body scope q f → Q (.ref f) H1) := by
  subst hq
  refine ⟨fun pins s σ H Q I h => ?_⟩
  obtain ⟨hT, h⟩ := h
  have no : ∀ y ∈ scope.names, y.2 = .free → ∃ c, X.env.cells.lookup y.1 = some c := fun y hy e => by
    have z := List.all_eq_true.mp nf y hy
    rw [e] at z
    simp at z
  refine lam_made I TB hcode hm hu hT hdef no fun f c' H1 s' I1 ex tT nfr hf hc => ⟨.ref f, H1, I1, rfl, h f H1 ex tT ⟨c', ?_, hc⟩⟩
  rw [clo_none nf] at hf
  exact hf
def rKey (G : Gx) (params : Arguments) (body : Expr) (scope : Scope) (q : Str) : List V → List V → Hp → VK → Prop := fun vs zs H Q => ∃ m h w v f, vs = [v] ∧ zs = [.ref f] ∧ Rel G m h H ∧ VR G m w v ∧ KeyO H params body scope q f ∧ Sat G m (fun _ _ _ => False) (VR G) (ofO (oSortK w h)) Q
theorem cr_sortKey {k : Nat} (KL : KeyL params body scope x) (hr : Room k X.A) (hK : X.K = G.K) : L2.CallRK X (.builtin "sorted") [Str.ofString "key"] (rKey G params body scope q) := fun pins s σ H xs zs us ws Q I rx rz h => by
  obtain ⟨m, h, w, v, f, rfl, rfl, R, r, ⟨c', hf, hc⟩, qq⟩ := h
  unfold oSortK at qq
  cases e : lst? h w with
  | none => rw [e] at qq; exact qq.elim
  | some ys =>
    rw [e] at qq
    dsimp only at qq
    cases e3 : kIts h ys with
    | none => rw [e3] at qq; exact qq.elim
    | some l =>
      rw [e3] at qq
      dsimp only at qq
      cases e4 : allAlk l && (sortB l && dpB l) with
      | false => rw [e4] at qq; exact qq.elim
      | true =>
        rw [e4] at qq
        obtain ⟨z1, z⟩ := Bool.and_eq_true_iff.mp e4
        obtain ⟨z2, z3⟩ := Bool.and_eq_true_iff.mp z
        obtain ⟨a, vs, rfl, rv, hq⟩ := lst_ok (X := X) hK R r e
        have pk : Paired (KOk G X.K H m) l vs := kIts_ok R e3 rv
        obtain ⟨its, rvs, pl, hz⟩ := I.list hq
        rw [L2.Vals.ref1 rx, L2.Vals.ref1 rz]
        have al : AllAlike (l.map fun p => p.1.g G.ρ) := fun d hd d' hd' => by
          obtain ⟨p, hp, rfl⟩ := List.mem_map.mp hd
          obtain ⟨p', hp', rfl⟩ := List.mem_map.mp hd'
          exact alk_ok _ _ (List.all_eq_true.mp (List.all_eq_true.mp z1 p hp) p' hp')
        have so : Sortable (l.map fun p => p.1.g G.ρ) := by
          rcases Bool.or_eq_true_iff.mp z2 with y | y
          · refine .inl fun d hd => ?_
            obtain ⟨p, hp, rfl⟩ := List.mem_map.mp hd
            have z := List.all_eq_true.mp y p hp
            cases ep : p.1 with
            | tup xs =>
              rw [ep] at z
              cases xs with
              | nil => cases z
              | cons x r => exact ⟨x.g G.ρ, SD.gs G.ρ r, by simp only [SD.g, SD.gs]⟩
            | _ => rw [ep] at z; cases z
          · refine .inr fun d hd => ?_
            obtain ⟨p, hp, rfl⟩ := List.mem_map.mp hd
            have z := List.all_eq_true.mp y p hp
            cases ep : p.1 with
            | lst xs => exact ⟨by simp [SD.g], fun ys => by simp [SD.g]⟩
            | int i => exact ⟨by simp [SD.g], fun ys => by simp [SD.g]⟩
            | _ => rw [ep] at z; cases z
        have dp : ∀ d, d ∈ (l.map fun p => p.1.g G.ρ) → d.depth ≤ 60 := fun d hd => by
          obtain ⟨p, hp, rfl⟩ := List.mem_map.mp hd
          unfold dpB at z3
          cases ef : SD.fits (l.map (·.1)) with
          | none => rw [ef] at z3; cases z3
          | some wk =>
            obtain ⟨w1, k1⟩ := wk
            rw [ef] at z3
            exact Nat.le_trans (fits_mem (G := G) ef p.1 (List.mem_map.mpr ⟨p, hp, rfl⟩)) (Nat.le_of_ble_eq_true z3)
        have len : (l.map fun p => p.1.g G.ρ).length = its.length := by rw [List.length_map]; exact (Paired.length pk).trans rvs.length
        have ea : EachIs (fun u (p : SIt) => ∃ v, RelV v u ∧ KOk G X.K H m p v) its l :=
          paired_each (R := KOk G X.K H m) (S := RelV) (fun p v u a b => ⟨v, b, a⟩) pk rvs
        have at_ : ∀ {us : List Value} {l : List SIt}, EachIs (fun u (p : SIt) => ∃ v, RelV v u ∧ KOk G X.K H m p v) us l → ∀ (i : Nat) (u : Value) (d : PyData), us[i]? = some u → (l.map fun p => p.1.g G.ρ)[i]? = some d → ∃ p v, d = p.1.g G.ρ ∧ RelV v u ∧ KOk G X.K H m p v := by
          intro us l z
          induction z with
          | nil => intro i u d h1 h2; simp at h1
          | @cons u0 p0 us0 l0 z0 z1 ih =>
            intro i u d h1 h2
            cases i with
            | zero =>
              have e1 : u0 = u := by simpa using h1
              have e2 : p0.1.g G.ρ = d := by simpa using h2
              subst e1
              obtain ⟨v0, a1, a2⟩ := z0
              exact ⟨p0, v0, e2.symm, a1, a2⟩
            | succ i => exact ih i u d (by simpa using h1) (by simpa using h2)
        obtain ⟨mm, hn, hlk⟩ := I.loc
        have F : Fr X.base X.env.locals s.heap mm := ⟨hn, I.bk, Nat.le_trans I.ok.bsz I.ok.above⟩
        obtain ⟨pm, ctv, ho⟩ := lamO_at I.hok hf
        obtain ⟨c0, oc, ovs, ot, k0, k1, k2, k3⟩ := NdefX.codeO_at I.hok hc
        refine sort_key F pl.isList (by rw [← rvs.length]; exact hz) len al so (fun d hd => ?_) (fun i u d hu hd g tk old => ?_) fun g tk c out p hp kp F3 hgp ko => ?_
        · have h1 := dp d hd
          have h2 := hr.un
          omega
        · obtain ⟨p, v, rfl, ruv, KO⟩ := at_ ea i u d hu hd
          obtain ⟨t, z0, zs, rfl, ht, hdz⟩ := KO.it
          obtain rfl : u = Value.ref t := ruv
          obtain ⟨hzt, tits, rt, pt⟩ := (show L2.ObjOk X.prog X.w H s.heap t (.tup (z0 :: zs)) from I.hok t _ ht)
          cases rt with
          | cons r0 r1 =>
            rename_i u0 us0
            have pt' : IsTup g t (u0 :: us0).toArray := by
              obtain ⟨o, e, r⟩ := pt
              exact ⟨o, old _ _ e, r⟩
            refine wpAny_mono (key_call (s := { s with heap := g, toks := tk }) KL (by have := hr.dp; show X.A.depth < recursionLimit; omega) (I.nolimit.keeps old) (old _ _ ho) ⟨c0, oc, ovs, ot, k0, old _ _ k1, k2, k3⟩ pt' (v0 := u0) (by simp)) (fun r s' hq => ?_) fun _ _ z => z
            obtain ⟨rfl, g', tk', rfl, kp⟩ := hq
            exact ⟨L2.Dp.reads I _ _ _ hdz r0, g', tk', rfl, kp⟩
        · have eo := keyedOut_each (fun p : SIt => p.1.g G.ρ) ko ea
          have tk0 : ∀ p ∈ l, keyToks (p.1.g G.ρ) = p.2.1.map Sum.inl := by
            have all : ∀ {us : List Value} {l : List SIt}, EachIs (fun u (p : SIt) => ∃ v, RelV v u ∧ KOk G X.K H m p v) us l → ∀ p ∈ l, keyToks (p.1.g G.ρ) = p.2.1.map Sum.inl := by
              intro us l z
              induction z with
              | nil => intro p hp; exact absurd hp List.not_mem_nil
              | cons a _ ih =>
                intro p hp
                rcases List.mem_cons.mp hp with rfl | hp
                · obtain ⟨_, _, a⟩ := a
                  exact a.tk
                · exact ih p hp
            exact all ea
          have ms : l.mergeSort (dataLe false fun p : SIt => p.1.g G.ρ) = isG leI l := ms_isG (PySem.W.sortLe_total _ _ _) l fun a ha b hb => by
            show (!PyProof.Rows.lexLt itemOrd (keyToks (b.1.g G.ρ)) (keyToks (a.1.g G.ρ))) = leI a b
            rw [tk0 a ha, tk0 b hb, lexI_ok]
            rfl
          rw [ms] at eo
          obtain ⟨us', u1, u2⟩ := split_paired (G := G) (m := m) (each_paired (eo.mono fun u p z => let ⟨v, z1, z2⟩ := z; ⟨v, z1, z2.vr⟩))
          have hnp : H p = none := I.hok.fresh hp
          have hlen : us'.length ≤ sizeLine := by
            rw [u1.length, ko.length len, ← rvs.length]
            exact hz
          have np : ∀ b o, s.heap.get? b = some o → b ≠ p := fun b o e => Nat.ne_of_lt (Nat.lt_of_lt_of_le (Heap.lt_size e) hp)
          have tr : ∀ b u, H b = some u → b ≠ p := fun b u e => L2.ne_of_none e hnp
          have J : Inv X pins σ (upd H p (.lst us')) { s with heap := g, toks := tk } := by
            refine I.step (g' := s.gens) (d' := s.drawn) (ch := []) (fun b hb => absurd hb (by simp)) (fun b o h1 _ _ e n => kp b o h1 e) (fun b o h1 _ _ e n => ⟨o.slots, kp b o h1 e⟩) (fun b o _ e n => by rw [upd_ne (np b o e)]; exact n) (fun b o _ e => ?_) (fun b xs e => by rw [upd_ne (tr b _ e)]; exact e) (fun b o u e => by rw [upd_ne (tr b _ e)]; exact e) (fun b qs e => ⟨#[], by rw [upd_ne (tr b _ e), e]; simp⟩) (fun m' hm => ?_) (fun b u e => ?_) I.bare
            · by_cases hb : b = X.env.locals
              · obtain ⟨oL, _, _, eL, _⟩ := F3.ns
                exact ⟨oL, by rw [hb]; exact eL⟩
              · exact ⟨o, kp b o hb e⟩
            · rw [ns_uniq hm F.ns]
              exact F3.ns
            · by_cases hb : b = p
              · subst hb
                rw [upd_same] at e
                cases e
                exact ⟨hlen, out, c, u1, hgp⟩
              · rw [upd_ne hb] at e
                refine (I.hok b u e).stay (fun d v hd q => kp d v ?_ q) (fun d q => by rw [upd_ne (tr d _ q)]; exact q) fun d xs q => by rw [upd_ne (tr d _ q)]; exact q
                rcases hd with rfl | hd
                · exact L2.ne_of_none e I.free
                · exact L2.ne_of_none hd I.free
          exact ⟨.ref p, _, J, rfl, new_sat (c := .lst ((isG leI l).map fun p => p.2.2)) R hnp ⟨us', u2.mono (m.le_snoc _), rfl⟩ qq⟩
theorem pm_sortKey {k : Nat} {e : Expr} {ge : EM} {c P : Addr} {p lpos kpos : Pos} (KL : KeyL params body scope x) (hr : Room k X.A) (hK : X.K = G.K) (TB : TabB X.base X.mg c P) (hm : (P, q) ∈ G.tt) (hu : ∀ p ∈ G.tt, p.1 = P → p.2 = q) (hg : Gl X "sorted") (hmg : X.mg "sorted" = none) (ha : PE X e (tE G Z ge))
    (hcode : X.env.code = .ref c := by rfl) (hq : X.env.qual ++ "<lambda>" = q := by rfl) (hdef : defaultsOf params X.env = ([], []) := by rfl) (h1 : starEach (e :: []) X.env = (false, eval e X.env) :: starEach [] X.env := by rfl)
    (he : backTo pos (starEach (e :: []) X.env) = (false, eval e X.env) :: backTo pos (starEach [] X.env) := by rfl) (hpl : (backTo pos (starEach (e :: []) X.env)).any (·.1) = false := by rfl)
    (hall : (backToKw pos (keywordEach [⟨some (Str.ofString "key"), .Lambda params body scope lpos, kpos⟩] X.env)).all (·.1.isSome) = true := by rfl) (hnone : (backToKw pos (keywordEach [⟨some (Str.ofString "key"), .Lambda params body scope lpos, kpos⟩] X.env)).any (·.1.isNone) = false := by rfl) (hks : (backToKw pos (keywordEach [⟨some (Str.ofString "key"), .Lambda params body scope lpos, kpos⟩] X.env)).filterMap (·.1) = [Str.ofString "key"] := by rfl) :
    PE X (.Call (.Name "sorted" p) [e] [⟨some (Str.ofString "key"), .Lambda params body scope lpos, kpos⟩] pos) (tE G Z (eOp1 oSortK ge)) :=
  pe_of (L2.pe_callBK (cr_sortKey (G := G) (q := q) KL hr hK) hg hmg bt_sorted (L2.pa_cons ha L2.pa_nil h1) (L2.pk_cons (pe_lamK (G := G) (body := body) TB hm hu KL.free hcode hq hdef) L2.pk_nil) (he := he) (hpl := hpl) (hall := hall) (hnone := hnone) (hks := hks)) fun σ H Q h => by
    obtain ⟨m, h, s, R, S, sq⟩ := h
    refine ⟨m, h, s, R, S, (Sat.bind (R := VR G) sq).imp fun y H1 z => ?_⟩
    obtain ⟨m1, w, h1, l1, R1, ra, q1⟩ := z
    exact ⟨R1.tab, fun f H2 ex tT ko => ⟨m1, h1, w, y, f, rfl, rfl, R1.grow ex tT, ra, ko, q1.ofO⟩⟩
end
theorem fn_okC {G : Gx} {P : Program} {w : World} {K : PySem.W.Frag} {mg : Str → Option Value} {x qual : Str} {st : Stmt} {f : Addr} {fd : FuncData} {c : Addr} {N ps : List Str} {k : Nat} {b : SM} {fn : Fn} (n kk : Nat) (F : FunC K x qual st f fd c) (S : L2.FnScope N ps (L2.defScope st))
    (hb : ∀ (base : Heap) (A : Around) (outer : List Env) (s : Shared) (H : Hp) (E : XK), A.guards = some [] → Room k (A.deeper (PyProof.Rows.envOfC qual (L2.defScope st) s.heap.objs.size f (.ref c))) → Tbs G base mg →
      L2.PSs (L2.cxOf (L2.CX P w) P w K mg base N qual (L2.defScope st) f (.ref c) A outer s H E) (L2.defBody st) (tS G (fun c d _ H => E c d H) b)) (hf : fn = callM n kk b) (hn : N.length = n := by rfl) (hk : ps.length = kk := by rfl) : FnG G P w K mg (k + 1) f fd ps fn := by
  subst hn hk hf
  refine ⟨fun ws h z => Decidable.byContradiction fun y => z (callM_len y), fun base A outer s H args us vs Q E m h ws hg hr tb e0 hbi r R rw q => ?_⟩
  obtain ⟨oc, od, kV, doc, pm, an, ct, osl, rfl, lk, hcd⟩ := F.ex
  have hl : ws.length = ps.length := Decidable.byContradiction fun z => q.ne (callM_len z)
  exact LamX.run_ofS lk hcd S hr e0 hbi r (by rw [← hl]; exact (vrs_len rw).symm) fun hr' => ⟨_, hb base A outer s H E hg hr' tb, m, h, _, R, start_rel rw, sat_body q⟩
theorem FnC.of {G : Gx} {P : Program} {w : World} {K : PySem.W.Frag} {mg : Str → Option Value} {kl k : Nat} {f : Addr} {fd : FuncData} {ps : List Str} {fn : Fn} (F : FnG G P w K mg k f fd ps fn) : FnC G P w K mg kl k f fd ps fun _ => fn :=
  ⟨fun _ ws h => F.len ws h, fun base A outer s H args us vs Q E m h ws L hg hr e0 tb _ hb r R rw q => F.run base A outer s H args us vs Q E m h ws hg hr tb e0 hb r R rw q⟩
end Pm
/-! PmLawC: the law's row, where defs of it make lambdas. -/
namespace Pm
open PySem PySem.Spec PySem.W
open PyProof.Rows (AllBare)
open L2 (V Hp HO Cx Inv XK WX RelV Vals upd upd_same upd_ne Room hidT hidT_get of_hidT hidT_size)
open LamX (TabB TabS Tabs)
section
variable {P : Program} {w : World} {K : PySem.W.Frag} {mg mb : Str → Option Value} {kl k : Nat} {fa a : Addr} {fd : FuncData} {x : Str} {s₁ : Shared} {vs : List Value} {ns : List Int} {G : Gx} {fn : Lm → Fn} {L : Lm}
structure TabSt (K : PySem.W.Frag) (mg : Str → Option Value) (cs : List (Addr × Addr)) (tt : List (Addr × Str)) (h : Heap) : Prop where
  empty : ∀ p ∈ cs, h.get? p.2 = some { cls := .none, data := .fields #[] }
  out : ∀ p ∈ cs, K.lookup p.2 = none
  code : ∀ p ∈ cs, CodeHd h p.1 p.2
  names : ∀ q ∈ tt, q.1 ∈ cs.map (·.2)
  main : ∃ (bm : Addr) (ob : Obj), mg "__builtins__" = some (.ref bm) ∧ bm ≠ builtinsNs ∧ h.get? bm = some ob ∧ ob.cls = .type "module" ∧ ob.dict = some builtinsNs ∧ ob.data = .plain
theorem law_coreC (hG : G.m0 = ⟨[], []⟩ ∧ G.sa = a ∧ G.K = K ∧ G.ns = ns) (KX : K.In s₁.heap) (g1 : s₁.heap.Ns mainGlobals mg) (g2 : s₁.heap.Ns builtinsNs mb) (g3 : ∀ x : Str, x ≠ "__name__" → mb x = bootBuiltins x) (g4 : s₁.heap.NoLimit) (g5 : s₁.gens = #[]) (TS : TabSt K mg G.cs G.tt s₁.heap)
    (ha : s₁.heap.get? a = some { cls := .type "list", data := .seq vs.toArray }) (hr : Room k callerA) (F : FnC G P w K mg kl k fa fd [x] fn) (LO : ∀ base m, Tbs G base mg → LamsOK G P w K mg base kl m L) (hbind : ∀ (s : Shared) (u : Value), BindsTo s fd ⟨[u], []⟩ [(x, u)])
    (hfn : ∃ h', fn L [.scr] (AH.nil ns) = .ok (.bl true) h') {H : Hp} (hH : ∀ p ∈ G.cs, H p.2 = some (.tbl #[])) (hO : ∀ b, H b = none ∨ b ∈ G.cs.map (·.2) ∨ ∃ ob xs, H b = some (.frz ob (.lst xs))) (hS : ScrR K H a (ns.map V.int)) (hok : L2.HOk P w H s₁.heap) (hA : ∀ b, H b ≠ none → b = a ∨ b ∈ G.cs.map (·.2)) (hK : H a ≠ none → K.lookup a = none) :
    codeAny (model P w) callerA (.call (.ref fa) ⟨[.ref a], []⟩) (fun r s' => r = .ok (.ret (.bool true)) ∧ OldK s₁.heap s'.heap ∧ s'.os = s₁.os ∧ AllBare s'.gens) s₁ := by
  have tabAt : ∀ b, b ∈ G.cs.map (·.2) → s₁.heap.get? b = some { cls := .none, data := .fields #[] } := fun b hb => by
    obtain ⟨p, hp, rfl⟩ := List.mem_map.mp hb
    exact TS.empty p hp
  have off : ∀ {b : Addr} {o : Obj}, s₁.heap.get? b = some o → (∀ us n, o.data ≠ .seq us n) → o.data ≠ .fields #[] → H b = none := fun {b o} e h1 h2 => by
    cases q : H b with
    | none => rfl
    | some u =>
      rcases hA b (fun z => by rw [q] at z; cases z) with rfl | z
      · rw [ha] at e; cases e
        exact absurd rfl (h1 _ _)
      · rw [tabAt b z] at e; cases e
        exact absurd rfl h2
  have offD : ∀ {b : Addr} {o : Obj} {es : Array DictEntry} {ep : Nat}, s₁.heap.get? b = some o → o.data = .dict es ep → H b = none := fun e d => off e (fun us n z => by rw [d] at z; cases z) (fun z => by rw [d] at z; cases z)
  have nsT : ∀ {b : Addr} {m : Str → Option Value}, s₁.heap.Ns b m → (hidT s₁.heap H).Ns b m := fun ⟨o, es, ep, e, d, r⟩ => ⟨o, es, ep, hidT_get e (offD e d), d, r⟩
  have kT : K.In (hidT s₁.heap H) := fun b o e => hidT_get (KX b o e) (by
    cases q : H b with
    | none => rfl
    | some u =>
      rcases hA b (fun z => by rw [q] at z; cases z) with rfl | z
      · rw [hK (fun z => by rw [q] at z; cases z)] at e; cases e
      · obtain ⟨p, hp, rfl⟩ := List.mem_map.mp z
        rw [TS.out p hp] at e; cases e)
  have M : L2.Mod K mg (hidT s₁.heap H) := ⟨kT, nsT g1, ⟨mb, nsT g2, g3⟩, let ⟨mc, h1, h2⟩ := g4; ⟨mc, nsT h1, h2⟩⟩
  have tb : ∀ p ∈ G.cs, TabB (hidT s₁.heap H) mg p.1 p.2 := fun p hp => by
    have emp := TS.empty p hp
    obtain ⟨og, eg, epg, hg1, hg2, _⟩ := g1
    refine ⟨?_, ?_, fun z => by rw [z, emp] at hg1; cases hg1; cases hg2⟩
    · obtain ⟨o, us, fi, tf, fl, tg, inF, tx, tt, q1, q2, q3, q4⟩ := TS.code p hp
      exact ⟨o, us, fi, tf, fl, tg, inF, tx, tt, hidT_get q1 (off q1 (fun vs n z => by rw [q3] at z; cases z) (fun z => by rw [q3] at z; cases z; simp at q4)), q2, q3, q4⟩
    · obtain ⟨bm, ob, b1, b2, b3, b4, b5, b6⟩ := TS.main
      refine ⟨bm, ob, b1, b2, fun z => ?_, fun z => ?_, hidT_get b3 (off b3 (fun vs n z => by rw [b6] at z; cases z) fun z => by rw [b6] at z; cases z), b4, b5, b6⟩
      · rw [z, hg1] at b3; cases b3
        rw [hg2] at b6; cases b6
      · rw [z, emp] at b3; cases b3
        cases b6
  have e0 : L2.Env0 P w K mg (hidT s₁.heap H) callerA [] s₁ H := ⟨rfl, M, fun b o e => of_hidT e, Nat.le_of_eq (hidT_size _ _), trivial, (fun b hb => nomatch (show b ∈ ([] : List Addr) from hb)), hok, AllBare.of_eq g5⟩
  obtain ⟨h', hfn⟩ := hfn
  obtain ⟨z1, z3, z4, z5⟩ := hG
  have R : Rel G ⟨[], []⟩ (AH.nil ns) H := ⟨by rw [z1]; exact Mp.Le.refl _, rfl, rfl, (fun _ _ _ e _ => by simp at e), fun l b e => by simp at e, fun q hq => by
      obtain ⟨p, hp, e⟩ := List.mem_map.mp (TS.names q hq)
      exact TabS.nil (by rw [← e]; exact hH p hp), (by rw [z3, z4]; exact hS), z5.symm, fun l b i act e => by simp at e⟩
  refine codeAny_mono (F.run (hidT s₁.heap H) callerA [] s₁ H ⟨[.ref a], []⟩ [.ref a] [.ref a] (fun v _ => v = .bl true) (fun _ _ _ => False) ⟨[], []⟩ (AH.nil ns) [.scr] L rfl hr e0 tb (LO _ _ tb) (hbind s₁ (.ref a)) (.cons rfl .nil) R (.cons (show V.ref a = V.ref G.sa by rw [z3]) .nil) ?_) fun r s' h => ?_
  · rw [hfn]
    exact fun m' H' b _ _ e => e
  · cases r with
    | error e =>
      obtain ⟨_, _, _, _, _, _, _, _, _, _, _, _, z⟩ := (show L2.CX P w [] H s₁ (fun _ _ _ => False) e s' from h)
      exact z.elim
    | ok fl =>
      cases fl with
      | next => exact False.elim h
      | brk => exact False.elim h
      | cont => exact False.elim h
      | ret u =>
        obtain ⟨v, H', os, bare, un, hok', r', q⟩ := h
        obtain rfl : v = .bl true := q
        obtain rfl : u = Value.bool true := r'
        have rest : ∀ b o, b ∉ G.cs.map (·.2) → s₁.heap.get? b = some o → s'.heap.get? b = some o := fun b o nb e => by
          cases q : H b with
          | none => exact un.keep b o e q (fun z => nomatch (show b ∈ ([] : List Addr) from z)) (by simp)
          | some u =>
            rcases hO b with z | z | ⟨ob, xs, z⟩
            · rw [q] at z; cases z
            · exact absurd z nb
            · obtain ⟨e1, _⟩ := hok b _ z
              obtain ⟨e2, _⟩ := hok' b _ (un.frzs b ob _ z)
              rw [e] at e1; cases e1
              exact e2
        have more : ∀ p ∈ G.cs, ∃ us : Array Value, s'.heap.get? p.2 = some { cls := .none, data := .fields us } := fun p hp => let ⟨us, z⟩ := un.tbls p.2 #[] (hH p hp); ⟨_, hok' p.2 _ z⟩
        refine ⟨rfl, ⟨fun b o e => ?_, fun b o e => ?_⟩, os, bare⟩
        · by_cases hb : b ∈ G.cs.map (·.2)
          · obtain ⟨p, hp, rfl⟩ := List.mem_map.mp hb
            obtain ⟨us, hm⟩ := more p hp
            rw [TS.empty p hp] at e; cases e
            exact .inr (.inl ⟨((TS.code p hp).tab (TS.empty p hp)).isCodeTable, rfl, #[], us, rfl, by rw [Array.empty_append]; exact hm⟩)
          · exact .inl (rest b o hb e)
        · by_cases hb : b ∈ G.cs.map (·.2)
          · obtain ⟨p, hp, rfl⟩ := List.mem_map.mp hb
            obtain ⟨us, hm⟩ := more p hp
            exact ⟨_, hm⟩
          · exact ⟨o, rest b o hb e⟩
theorem law_runC (hG : G.m0 = ⟨[], []⟩ ∧ G.sa = a ∧ G.K = K ∧ G.ns = ns) (KX : K.In s₁.heap) (g1 : s₁.heap.Ns mainGlobals mg) (g2 : s₁.heap.Ns builtinsNs mb) (g3 : ∀ x : Str, x ≠ "__name__" → mb x = bootBuiltins x) (g4 : s₁.heap.NoLimit) (g5 : s₁.gens = #[]) (TS : TabSt K mg G.cs G.tt s₁.heap)
    (ha : s₁.heap.get? a = some { cls := .type "list", data := .seq vs.toArray }) (hi : PyProof.Rows.IntsAre vs ns) (hl : ns.length ≤ sizeLine) (hr : Room k callerA) (F : FnC G P w K mg kl k fa fd [x] fn) (LO : ∀ base m, Tbs G base mg → LamsOK G P w K mg base kl m L) (hbind : ∀ (s : Shared) (u : Value), BindsTo s fd ⟨[u], []⟩ [(x, u)])
    (hfn : ∃ h', fn L [.scr] (AH.nil ns) = .ok (.bl true) h') :
    codeAny (model P w) callerA (.call (.ref fa) ⟨[.ref a], []⟩) (fun r s' => r = .ok (.ret (.bool true)) ∧ OldK s₁.heap s'.heap ∧ s'.os = s₁.os ∧ AllBare s'.gens) s₁ := by
  have rv := L2.vals_ints hi
  have lv := hi.length
  have tabAt : ∀ b, b ∈ G.cs.map (·.2) → s₁.heap.get? b = some { cls := .none, data := .fields #[] } := fun b hb => by
    obtain ⟨p, hp, rfl⟩ := List.mem_map.mp hb
    exact TS.empty p hp
  have aT : a ∉ G.cs.map (·.2) := fun z => by
    have q := tabAt a z
    rw [ha] at q
    exact nomatch (show Data.seq vs.toArray _ = Data.fields #[] from congrArg Obj.data (Option.some.inj q))
  have inT : ∀ p ∈ G.cs, p.2 ∈ G.cs.map (·.2) := fun p hp => List.mem_map.mpr ⟨p, hp, rfl⟩
  cases hk : K.lookup a with
  | some o =>
    have e := KX a o hk
    rw [ha] at e
    cases e
    let H : Hp := fun b => if b ∈ G.cs.map (·.2) then some (.tbl #[]) else none
    have yes : ∀ {b}, b ∈ G.cs.map (·.2) → H b = some (.tbl #[]) := fun q => if_pos q
    have no : ∀ {b}, b ∉ G.cs.map (·.2) → H b = none := fun q => if_neg q
    refine law_coreC hG KX g1 g2 g3 g4 g5 TS ha hr F LO hbind hfn (H := H) (fun p hp => yes (inT p hp)) (fun b => ?_) (.inr (.inr ⟨_, vs.toArray, _, hk, rfl, rfl, rfl, by rw [List.size_toArray, lv]; exact hl, by simpa using rv⟩)) (fun b u z => ?_) (fun b z => ?_) fun z => absurd (no aT) z
    · by_cases hb : b ∈ G.cs.map (·.2)
      · exact .inr (.inl hb)
      · exact .inl (no hb)
    · by_cases hb : b ∈ G.cs.map (·.2)
      · rw [yes hb] at z; cases z
        exact tabAt b hb
      · rw [no hb] at z; cases z
    · by_cases hb : b ∈ G.cs.map (·.2)
      · exact .inr hb
      · exact absurd (no hb) z
  | none =>
    let H : Hp := fun b => if b = a then some (.frz { cls := .type "list", data := .seq vs.toArray } (.lst (ns.map V.int))) else if b ∈ G.cs.map (·.2) then some (.tbl #[]) else none
    have yes : ∀ {b}, b ∈ G.cs.map (·.2) → H b = some (.tbl #[]) := fun {b} q => (if_neg (show ¬ b = a from fun z => aT (z ▸ q))).trans (if_pos q)
    have scr : H a = some (.frz { cls := .type "list", data := .seq vs.toArray } (.lst (ns.map V.int))) := if_pos rfl
    have no : ∀ {b}, b ≠ a → b ∉ G.cs.map (·.2) → H b = none := fun h1 h2 => (if_neg h1).trans (if_neg h2)
    refine law_coreC hG KX g1 g2 g3 g4 g5 TS ha hr F LO hbind hfn (H := H) (fun p hp => yes (inT p hp)) (fun b => ?_) (.inl ⟨_, scr⟩) (fun b u z => ?_) (fun b z => ?_) fun _ => hk
    · by_cases hb : b = a
      · subst hb
        exact .inr (.inr ⟨_, _, scr⟩)
      · by_cases hb2 : b ∈ G.cs.map (·.2)
        · exact .inr (.inl hb2)
        · exact .inl (no hb hb2)
    · by_cases hb : b = a
      · subst hb
        rw [scr] at z; cases z
        exact ⟨ha, by rw [List.length_map]; exact hl, vs, _, rv, ha⟩
      · by_cases hb2 : b ∈ G.cs.map (·.2)
        · rw [yes hb2] at z; cases z
          exact tabAt b hb2
        · rw [no hb hb2] at z; cases z
    · by_cases hb : b = a
      · exact .inl hb
      · by_cases hb2 : b ∈ G.cs.map (·.2)
        · exact .inr hb2
        · exact absurd (no hb hb2) z
end
def CodesOK (q : Program) (K : PySem.W.Frag) (h : Heap) : Prop := ∀ (x : Str) (d : DefRec) (c P : Addr), (PyProof.Rows.recsOf q).find? (fun e => e.name == x) = some d → tabIn K x = some (c, P) → CodeHd h c P ∧ h.get? P = some { cls := .none, data := .fields #[] }
theorem law_walkC {l : PySem.W.OpenLaw} {n k : Nat} {q : Program} {loose : List Str} {XP : (Str → Option Value) → Heap → Prop} {YP : World → Heap → Prop} {d : DefRec} {K : Params → PySem.W.Frag} {x : Str}
    (hn : l.most = some n) (hn2 : n ≤ sizeLine) (hdf : d.params.defaults = []) (hr : Room k callerA) (hY : ∀ (w : World) (h : Heap), YP w h → (K w.params).In h)
    (F : ∀ (w : World) (mg : Str → Option Value) (fa : Addr) (h : Heap), (K w.params).In h → h.Ns mainGlobals mg → mg d.name = some (.ref fa) → CodesOK q (K w.params) h →
      (∃ (bm : Addr) (ob : Obj), mg "__builtins__" = some (.ref bm) ∧ bm ≠ builtinsNs ∧ h.get? bm = some ob ∧ ob.cls = .type "module" ∧ ob.dict = some builtinsNs ∧ ob.data = .plain) →
      ∃ fd : FuncData, (∀ (s : Shared) (u : Value), BindsTo s fd ⟨[u], []⟩ [(x, u)]) ∧ ∀ (a : Addr) (ns : List Int), ns.length ≤ n →
        ∃ (G : Gx) (kl : Nat) (L : Lm) (fn : Lm → Fn), (G.m0 = ⟨[], []⟩ ∧ G.sa = a ∧ G.K = K w.params ∧ G.ns = ns) ∧ TabSt (K w.params) mg G.cs G.tt h ∧ FnC G l.prog w (K w.params) mg kl k fa fd [x] fn ∧ (∀ base m, Tbs G base mg → LamsOK G l.prog w (K w.params) mg base kl m L) ∧ ∃ h', fn L [.scr] (AH.nil ns) = .ok (.bl true) h') :
    PySem.W.WalkO q loose XP YP l.row.toRowW d [] (fun f vs => PySem.call f vs) := by
  refine Att.attach_call hn hdf fun w s₀ s₁ mg mb fa o pm cd doc a vs ns G Y ho hd hcd hmg hobj hints hlen hg => ?_
  obtain ⟨fd, hb, hF⟩ := F w mg fa _ (hY w _ Y) G.T.g hmg (fun x d c P e1 e2 => tab_of G.T (hY w _ Y) e1 e2) G.T.bmain
  obtain ⟨Gm, kl, L, fn, h1, ts, h2, lo, h3⟩ := hF a ns hlen
  exact law_runC h1 (hY w _ Y) G.T.g G.T.b G.T.builtins G.T.nolimit hg ts hobj hints (Nat.le_trans hlen hn2) hr h2 lo hb h3
theorem tab_by {K : PySem.W.Frag} {x : Str} {f c P : Addr} {oc cl : Value} {od cd : Option Addr} {fd : FuncData} {osl csl : Array (Option Value)} {vs : Array Value} (a : nsIn K mainGlobals x = some (some (.ref f))) (l : K.lookup f = some ⟨oc, od, .func fd, osl⟩) (e : fd.code = .ref c)
    (l2 : K.lookup c = some ⟨cl, cd, .fields vs, csl⟩) (v : vs[11]? = some (.ref P)) : tabIn K x = some (c, P) := by
  unfold tabIn
  rw [a]
  dsimp only
  rw [l]
  dsimp only
  rw [e]
  dsimp only
  rw [l2]
  dsimp only
  rw [v]
end Pm
/-! PmCut: what a call has left behind is forgotten, when nothing of it is held; a run in pieces. -/
namespace Pm
open PySem PySem.Spec
open L2 (V Hp HO)
variable {G : Gx} {m m1 m2 : Mp}
theorem nleq_eq : ∀ {a b : List Nat}, nleq a b = true → a = b
  | [], [], _ => rfl
  | a :: r, b :: t, h => by
    unfold nleq at h
    rw [Bool.and_eq_true] at h
    rw [Nat.eq_of_beq_eq_true h.1, nleq_eq h.2]
  | [], _ :: _, h => by cases h
  | _ :: _, [], h => by cases h
theorem weq_eq {a b : W} (h : weq a b = true) : a = b := by
  unfold weq at h
  split at h
  · split at h <;> first | rfl | cases h
  · split at h
    · split at h <;> first | rfl | cases h
    · cases h
  · split at h
    · rw [ieq_eq h]
    · cases h
  · split at h
    · rw [Bool.and_eq_true, Bool.and_eq_true] at h
      rw [Nat.eq_of_beq_eq_true h.1, ieq_eq h.2.1, ieq_eq h.2.2]
    · cases h
  · split at h
    · rw [nleq_eq h]
    · cases h
  · split at h
    · rw [Nat.eq_of_beq_eq_true h]
    · cases h
  · split at h
    · rw [Nat.eq_of_beq_eq_true h]
    · cases h
  · split at h
    · rw [Nat.eq_of_beq_eq_true h]
    · cases h
  · split at h <;> first | rfl | cases h
  · cases h
theorem wseq_eq : ∀ {a b : List W}, wseq a b = true → a = b
  | [], [], _ => rfl
  | a :: r, b :: t, h => by
    unfold wseq at h
    rw [Bool.and_eq_true] at h
    rw [weq_eq h.1, wseq_eq h.2]
  | [], _ :: _, h => by cases h
  | _ :: _, [], h => by cases h
theorem ileq_eq : ∀ {a b : List Int}, ileq a b = true → a = b
  | [], [], _ => rfl
  | a :: r, b :: t, h => by
    unfold ileq at h
    rw [Bool.and_eq_true] at h
    rw [ieq_eq h.1, ileq_eq h.2]
  | [], _ :: _, h => by cases h
  | _ :: _, [], h => by cases h
theorem kveq_eq : ∀ {a b : List (Sum Int (List Nat) × W)}, kveq a b = true → a = b
  | [], [], _ => rfl
  | (.inl i, a) :: r, (.inl j, b) :: t, h => by
    unfold kveq at h
    rw [Bool.and_eq_true, Bool.and_eq_true] at h
    rw [ieq_eq h.1, weq_eq h.2.1, kveq_eq h.2.2]
  | (.inr i, a) :: r, (.inr j, b) :: t, h => by
    unfold kveq at h
    rw [Bool.and_eq_true, Bool.and_eq_true] at h
    rw [nleq_eq h.1, weq_eq h.2.1, kveq_eq h.2.2]
  | (.inl _, _) :: _, (.inr _, _) :: _, h => by cases h
  | (.inr _, _) :: _, (.inl _, _) :: _, h => by cases h
  | [], _ :: _, h => by cases h
  | (.inl _, _) :: _, [], h => by cases h
  | (.inr _, _) :: _, [], h => by cases h
theorem kteq_eq : ∀ {a b : List (List Int × W)}, kteq a b = true → a = b
  | [], [], _ => rfl
  | (k, w) :: r, (k2, w2) :: r2, h => by
    unfold kteq at h
    rw [Bool.and_eq_true, Bool.and_eq_true] at h
    rw [ileq_eq h.1, weq_eq h.2.1, kteq_eq h.2.2]
  | [], _ :: _, h => by cases h
  | _ :: _, [], h => by cases h
theorem oeq_eq : ∀ {a b : Option Nat}, oeq a b = true → a = b
  | none, none, _ => rfl
  | some a, some b, h => congrArg some (Nat.eq_of_beq_eq_true h)
  | none, some _, h => by cases h
  | some _, none, h => by cases h
theorem ceq_eq {a b : Cell} (h : ceq a b = true) : a = b := by
  unfold ceq at h
  split at h
  · split at h
    · rw [wseq_eq h]
    · cases h
  · split at h
    · rw [wseq_eq h]
    · cases h
  · split at h
    · rw [kveq_eq h]
    · cases h
  · split at h
    · rw [ileq_eq h]
    · cases h
  · split at h
    · rw [weq_eq h]
    · cases h
  · split at h
    · rw [Bool.and_eq_true] at h
      rw [Nat.eq_of_beq_eq_true h.1, Nat.eq_of_beq_eq_true h.2]
    · cases h
  · split at h
    · rw [Nat.eq_of_beq_eq_true h]
    · cases h
  · split at h
    · rw [Bool.and_eq_true] at h
      rw [Nat.eq_of_beq_eq_true h.1, oeq_eq h.2]
    · cases h
  · split at h
    · rw [kteq_eq h]
    · cases h
  · split at h
    · rw [wseq_eq h]
    · cases h
theorem sameUp_at {t t1 : Tr} : ∀ {n : Nat}, sameUp t t1 n = true → ∀ l, l < n → ∃ c, t.get l = some c ∧ t1.get l = some c
  | 0, _, l, h => absurd h (Nat.not_lt_zero l)
  | k + 1, e, l, h => by
    unfold sameUp at e
    split at e
    · rename_i c e1
      split at e
      · rename_i d e2
        split at e
        · rename_i e3
          have q := ceq_eq e3
          by_cases z : l = k
          · rw [z]
            exact ⟨d, by rw [← q]; exact e1, e2⟩
          · exact sameUp_at e l (by omega)
        · cases e
      · cases e
    · cases e
theorem VR.back : ∀ {v : W} {u : V}, atomW v = true → VR G m1 v u → VR G m v u
  | .non, _, _, h => h
  | .bl _, _, _, h => h
  | .int _, _, _, h => h
  | .sym _ _ _, _, _, h => h
  | .txt _, _, _, h => h
theorem LamAt.back {H H1 : Hp} {a : Addr} {i : Nat} {act : Option Nat} (x : m.Le m1) (L : LamAt G m H a i act) (L1 : LamAt G m1 H1 a i act) : LamAt G m H1 a i act := by
  obtain ⟨cl, c', h1, h2, h3, h4⟩ := L
  obtain ⟨cl1, c1, g1, g2, g3, g4⟩ := L1
  refine ⟨cl1, c1, g1, fun k hk => ?_, g3, g4⟩
  have := pre_get x.cs (h2 k hk)
  rw [g2 k hk] at this
  cases this
  exact h2 k hk
theorem Rel.cut {h h1 : AH} {H H1 : Hp} (R : Rel G m h H) (x : m.Le m1) (R1 : Rel G m1 h1 H1) (e : sameUp h.t h1.t h.n = true) : Rel G m h H1 := by
  have lt : ∀ {l a}, m.as[l]? = some a → l < h.n := fun {l a} e => by
    have := (List.getElem?_eq_some_iff.mp e).1
    rw [R.len] at this
    exact this
  have hs : h1.s = h.s := R1.sn.trans R.sn.symm
  refine ⟨R.pre, R.len, R.act, R.nd, fun l a ea => ?_, R1.tab, by rw [← hs]; exact R1.scr, R.sn, fun l a i act ea hc => ?_⟩
  · obtain ⟨c, e1, e2⟩ := sameUp_at e l (lt ea)
    obtain ⟨c0, o0, f1, f2, f3⟩ := R.cell l a ea
    obtain ⟨c1, o1, g1, g2, g3⟩ := R1.cell l a (x.at ea)
    have k0 : c0 = c := by
      have : some c0 = some c := f1.symm.trans e1
      cases this; rfl
    have k1 : c1 = c := by
      have : some c1 = some c := g1.symm.trans e2
      cases this; rfl
    rw [k0] at f3
    rw [k1] at g3
    exact ⟨c, o1, e1, g2, CR.re x (Mp.Le.refl m) f3 g3⟩
  · obtain ⟨c, e1, e2⟩ := sameUp_at e l (lt ea)
    have : some (Cell.lam i act) = some c := hc.symm.trans e1
    cases this
    exact (R.lam l a i act ea hc).back x (R1.lam l a i act (x.at ea) e2)
theorem VRs.back : ∀ {vs : List W} {us : List V}, atomsW vs = true → VRs G m1 vs us → VRs G m vs us
  | _, _, _, .nil => .nil
  | _, _, h, .cons a r => by
    unfold atomsW at h
    rw [Bool.and_eq_true] at h
    exact .cons (VR.back h.1 a) (VRs.back h.2 r)
theorem Rel.keep1 {h h1 : AH} {H H1 : Hp} {l : Nat} {g : Addr} {c2 : Cell} (R : Rel G m h H) (x : m.Le m1) (R1 : Rel G m1 h1 H1) (e : sameUp h.t h1.t h.n = true) (hl : h.n ≤ l) (at1 : m1.as[l]? = some g) (hc : h1.get l = some c2) (nl : c2.isLam = false) (same : ∀ (m2 : Mp) a o, CR G m1 a c2 o → CR G m2 a c2 o) (nali : isAli (some c2) = false := by rfl) :
    m.Le ⟨m.as ++ [g], m.cs⟩ ∧ Rel G ⟨m.as ++ [g], m.cs⟩ (h.new c2) H1 := by
  have le2 : m.Le ⟨m.as ++ [g], m.cs⟩ := ⟨List.prefix_append _ _, List.prefix_refl _⟩
  refine ⟨le2, ?_⟩
  have R0 := R.cut x R1 e
  have old : ∀ {j a}, (m.as ++ [g])[j]? = some a → j ≠ h.n → m.as[j]? = some a := fun {j a} e hj => by
    obtain ⟨hi, _⟩ := List.getElem?_eq_some_iff.mp e
    have hi2 : j < m.as.length + 1 := by simpa using hi
    rw [List.getElem?_append_left (Nat.lt_of_le_of_ne (Nat.le_of_lt_succ hi2) fun z => hj (z.trans R.len))] at e
    exact e
  have lastg : (m.as ++ [g])[h.n]? = some g := by
    rw [← R.len]
    exact List.getElem?_concat_length
  refine ⟨R.pre.trans le2, by show (m.as ++ [_]).length = h.n + 1; rw [List.length_append, R.len]; rfl, R.act, ?_, fun j a ej => ?_, R1.tab, R0.scr, R.sn, fun j a i act ej hc => ?_⟩
  · exact R.nd.snoc R.len fun j hj => by
      have lt : j < h.n := by
        have := (List.getElem?_eq_some_iff.mp hj).1
        rw [R.len] at this
        exact this
      obtain ⟨c0, f1, f2⟩ := sameUp_at e j lt
      rcases R1.nd j l g (x.at hj) at1 with z | z | z
      · omega
      · exact (show h.get j = h1.get j from f1.trans f2.symm) ▸ z
      · rw [hc, nali] at z
        cases z
  · have e' : (m.as ++ [g])[j]? = some a := ej
    rw [AH.get_new]
    by_cases hj : j = h.n
    · rw [if_pos hj]
      rw [hj, lastg] at e'
      cases e'
      obtain ⟨c', o, e1, e2, e3⟩ := R1.cell l _ at1
      rw [hc] at e1
      cases e1
      exact ⟨c2, o, rfl, e2, same _ _ _ e3⟩
    · rw [if_neg hj]
      obtain ⟨c', o, e1, e2, e3⟩ := R0.cell j a (old e' hj)
      exact ⟨c', o, e1, e2, CR.re le2 le2 (CR.re (Mp.Le.refl m) (Mp.Le.refl m) e3 e3) (CR.re (Mp.Le.refl m) le2 e3 e3)⟩
  · have e' : (m.as ++ [g])[j]? = some a := ej
    rw [AH.get_new] at hc
    by_cases hj : j = h.n
    · rw [if_pos hj] at hc
      cases hc
      cases nl
    · rw [if_neg hj] at hc
      exact R0.lam j a i act (old e' hj) hc
theorem fnD_ne {f : Fn} {ws : List W} {h : AH} (e : fnD f ws h ≠ .no) : f ws h ≠ .no := fun z => e (by unfold fnD; rw [z])
theorem Sat.cut {f : Fn} {ws : List W} {h : AH} {H : Hp} {E : L2.XK} {Q : L2.VK} (R : Rel G m h H) (q : Sat G m E (VR G) (fnD f ws h) Q) : Sat G m E (VR G) (f ws h) Q := by
  unfold fnD at q
  cases e : f ws h with
  | ok v h1 =>
    rw [e] at q
    dsimp only at q
    split at q
    · rename_i b
      rw [Bool.and_eq_true] at b
      exact fun m' H' u x R1 rv => q m H' u (Mp.Le.refl m) (R.cut x R1 b.2) (VR.back b.1 rv)
    · cases v with
      | ref l =>
        dsimp only at q
        cases hg : h1.get l with
        | none => rw [hg] at q; exact q
        | some c0 =>
          rw [hg] at q
          cases c0 with
          | lst xs =>
            dsimp only at q
            split at q
            · rename_i b
              rw [Bool.and_eq_true, Bool.and_eq_true] at b
              intro m' H' u x R1 rv
              obtain ⟨g, at1, rfl⟩ := (show VR G m' (.ref l) u from rv)
              obtain ⟨le2, R2⟩ := R.keep1 x R1 b.2.2 (Nat.le_of_ble_eq_true b.1) at1 hg rfl fun m2 a o z => by
                obtain ⟨us, y1, y2⟩ := z
                exact ⟨us, VRs.back b.2.1 y1, y2⟩
              refine q _ H' _ le2 R2 ⟨g, ?_, rfl⟩
              show (m.as ++ [g])[h.n]? = some g
              rw [← R.len]
              exact List.getElem?_concat_length
            · exact q
          | _ => exact q
      | _ => exact q
  | exc c d h1 =>
    rw [e] at q
    exact q
  | no =>
    rw [e] at q
    exact q
theorem FnG.cut {P : Program} {w : World} {K : PySem.W.Frag} {mg : Str → Option Value} {k : Nat} {f : Addr} {fd : FuncData} {ps : List Str} {fn : Fn} (F : FnG G P w K mg k f fd ps fn) : FnG G P w K mg k f fd ps (fnD fn) :=
  ⟨fun ws h e => F.len ws h (fnD_ne e), fun base A outer s H args us vs Q E m h ws hg hr tb e0 hb r R rw q => F.run base A outer s H args us vs Q E m h ws hg hr tb e0 hb r R rw (q.cut R)⟩
theorem FnC.cut {P : Program} {w : World} {K : PySem.W.Frag} {mg : Str → Option Value} {kl k : Nat} {f : Addr} {fd : FuncData} {ps : List Str} {fn : Lm → Fn} (F : FnC G P w K mg kl k f fd ps fn) : FnC G P w K mg kl k f fd ps (cutL fn) :=
  ⟨fun L ws h e => F.len L ws h (fnD_ne e), fun base A outer s H args us vs Q E m h ws L hg hr e0 tb lo hb r R rw q => F.run base A outer s H args us vs Q E m h ws L hg hr e0 tb lo hb r R rw (q.cut R)⟩
/-! ### a run in pieces -/
def chkS (r : SR) : Bool := match r with
  | .rt (.bl true) _ => true
  | _ => false
theorem vc_fn {n kk : Nat} {ws : List W} {b : SM} {h : AH} (e0 : Nat.beq ws.length kk = true) (e1 : chkS (b (start n ws) h) = true) : chk (callM n kk b ws h) = true := by
  unfold callM
  rw [e0]
  dsimp only
  cases e : b (start n ws) h with
  | rt v h1 => rw [e] at e1; dsimp only; unfold chkS at e1; unfold chk; split at e1 <;> first | rfl | (rename_i q; cases q; rfl) | cases e1
  | _ => rw [e] at e1; cases e1
section
variable {σ σ1 : Sl} {h h1 h2 : AH} {A B : SM} {a b : EM} {c d : CM} {t : Bool} {r : SR} {x : W}
theorem vc_seq (e1 : A σ h = .nx σ1 h1) (e2 : chkS (B σ1 h1) = true) : chkS (sSeq A B σ h) = true := by unfold sSeq; rw [e1]; exact e2
theorem vc_ret (e : a σ h = .ok (.bl true) h1) : chkS (sRet a σ h) = true := by unfold sRet; rw [e]; rfl
theorem vb_and (e1 : a σ h = .ok (.bl true) h1) (e2 : b σ h1 = .ok x h2) : eAnd a b σ h = .ok x h2 := by unfold eAnd; rw [e1]; exact e2
theorem vc_retc (e : chk (a σ h) = true) : chkS (sRet a σ h) = true := by obtain ⟨h', e'⟩ := chk_ok e; exact vc_ret e'
theorem vc_and (e1 : a σ h = .ok (.bl true) h1) (e2 : chk (b σ h1) = true) : chk (eAnd a b σ h) = true := by obtain ⟨h', e'⟩ := chk_ok e2; rw [vb_and e1 e']; rfl
theorem vb_or0 (e1 : c σ h = .ok false h1) (e2 : d σ h1 = .ok t h2) : cOr c d σ h = .ok t h2 := by unfold cOr; rw [e1]; exact e2
theorem vb_and1 (e1 : c σ h = .ok true h1) (e2 : d σ h1 = .ok t h2) : cAnd c d σ h = .ok t h2 := by unfold cAnd; rw [e1]; exact e2
theorem v_op2c {f : Op2} {y : W} {r : Res W} (e1 : a σ h = .ok x h1) (e2 : b σ h1 = .ok y h2) (e3 : eOp2 f (eC x) (eC y) σ h2 = r) : eOp2 f a b σ h = r := by
  unfold eOp2
  rw [e1]
  show Res.bind (b σ h1) _ = _
  rw [e2]
  exact e3
theorem chk_of {h' : AH} {r : Res W} (e : r = .ok (.bl true) h') : chk r = true := by rw [e]; rfl
theorem vb_not1 (e1 : c σ h = .ok true h1) : cNot c σ h = .ok false h1 := by unfold cNot; rw [e1]; rfl
end
end Pm
/-! PmTup2: tuple(xs). -/
namespace Pm
open PySem PySem.Spec
open L2 (V Hp HO Cx Inv PE CallR)
section
variable {X : Cx} {G : Gx} {Z : WX}
def oTuple : OpN := fun xs h => match xs with
  | [.ref l] => (match h.get l with
    | some (.lst ys) => some (.ref h.n, h.new (.tup ys))
    | some (.tup _) => some (.ref l, h)
    | _ => none)
  | _ => none
theorem cr_tuple : CallR X (.type "tuple") (rN G oTuple) := callr_of L2.call_tuple_of fun xs H Q h => by
  obtain ⟨m, h, as, R, rs, q⟩ := h
  cases rs with
  | nil => exact q.elim
  | @cons w v _ _ r t =>
    cases t with
    | cons _ _ =>
      unfold oTuple at q
      cases w <;> exact q.elim
    | nil =>
      unfold oTuple at q
      cases w with
      | ref l =>
        dsimp only at q
        obtain ⟨a, ha, rfl⟩ := r
        cases e : h.get l with
        | none => rw [e] at q; exact q.elim
        | some c =>
          rw [e] at q
          cases c with
          | lst ys =>
            obtain ⟨_, o1, vs, r1, rfl⟩ := R.see ha e
            exact ⟨a, vs, rfl, .inl ⟨.inl (.inl o1), fun p np => new_sat (c := .tup ys) R np ⟨_, r1.mono (m.le_snoc p), rfl⟩ q⟩⟩
          | tup ys =>
            obtain ⟨_, o1, vs, r1, rfl⟩ := R.see ha e
            exact ⟨a, vs, rfl, .inr ⟨.inl (.inl o1), q m H (.ref a) (.refl m) R ⟨a, ha, rfl⟩⟩⟩
          | _ => exact q.elim
      | _ => exact q.elim
end
end Pm
/-! PmTrim: a loop's turn that only appends to a list leaves nothing else behind; loops in pieces. -/
namespace Pm
open PySem PySem.Spec
open L2 (V Hp HO Cx PS PSs WX Ends St)
section
variable {X : Cx} {G : Gx} {Z : WX} {m m1 : Mp}
def sameB1 (t t1 : Tr) (k : Nat) : Bool := match t.get k with
  | some c => (match t1.get k with
    | some d => ceq c d
    | none => false)
  | none => false
def sameButC (l0 : Nat) (t t1 : Tr) : Nat → Bool
  | 0 => true
  | k + 1 => match Nat.beq k l0 || sameB1 t t1 k with
    | true => sameButC l0 t t1 k
    | false => false
def sameBut (l0 : Nat) (t t1 : Tr) (n : Nat) : Bool := Nat.rec (motive := fun _ => Bool) true (fun k ih => Bool.rec (motive := fun _ => Bool) false ih (Nat.beq k l0 || sameB1 t t1 k)) n
theorem sameBut_at {l0 : Nat} {t t1 : Tr} : ∀ {n : Nat}, sameBut l0 t t1 n = true → ∀ l, l < n → l ≠ l0 → ∃ c, t.get l = some c ∧ t1.get l = some c
  | 0, _, l, h, _ => absurd h (Nat.not_lt_zero l)
  | k + 1, e, l, h, hn => by
    have e' : Bool.rec (motive := fun _ => Bool) false (sameBut l0 t t1 k) (Nat.beq k l0 || sameB1 t t1 k) = true := e
    cases z : Nat.beq k l0 || sameB1 t t1 k with
    | false => rw [z] at e'; cases e'
    | true =>
      rw [z] at e'
      by_cases zl : l = k
      · rw [zl] at hn ⊢
        rw [Bool.or_eq_true] at z
        rcases z with z | z
        · exact absurd (Nat.eq_of_beq_eq_true z) hn
        · unfold sameB1 at z
          split at z
          · rename_i c e1
            split at z
            · rename_i d e2
              have q := ceq_eq z
              exact ⟨d, by rw [← q]; exact e1, e2⟩
            · cases z
          · cases z
      · exact sameBut_at e' l (by omega) hn
theorem Rel.trim {h h1 : AH} {H H1 : Hp} {l : Nat} {xs : List W} (R : Rel G m h H) (x : m.Le m1) (R1 : Rel G m1 h1 H1) (e : sameBut l h.t h1.t h.n = true) (hl : l < h.n) (hc : h1.get l = some (.lst xs)) (ha : atomsW xs = true) (nali : isAli (h.get l) = false) : Rel G m (h.put l (.lst xs)) H1 := by
  have lt : ∀ {l a}, m.as[l]? = some a → l < h.n := fun {l a} e => by
    have := (List.getElem?_eq_some_iff.mp e).1
    rw [R.len] at this
    exact this
  have hs : h1.s = h.s := R1.sn.trans R.sn.symm
  have hold : isAli (h.get l) = false → NdR m.as (h.put l (.lst xs)) := fun q i j b e1 e2 => by
    rcases R.nd i j b e1 e2 with z | z | z
    · exact .inl z
    · refine .inr (.inl ?_)
      rw [AH.get_put]
      by_cases hl : i = l
      · rw [hl, q] at z
        cases z
      · rw [if_neg hl]
        exact z
    · refine .inr (.inr ?_)
      rw [AH.get_put]
      by_cases hl : j = l
      · rw [hl, q] at z
        cases z
      · rw [if_neg hl]
        exact z
  refine ⟨R.pre, R.len, R.act, hold nali, fun j a ea => ?_, R1.tab, by rw [show (h.put l (.lst xs)).s = h.s from rfl, ← hs]; exact R1.scr, R.sn, fun j a i act ea hj => ?_⟩
  · rw [AH.get_put]
    by_cases z : j = l
    · rw [if_pos z]
      obtain ⟨c1, o1, g1, g2, g3⟩ := R1.cell j a (x.at ea)
      rw [z, hc] at g1
      cases g1
      obtain ⟨us, y1, y2⟩ := g3
      exact ⟨_, o1, rfl, g2, us, VRs.back ha y1, y2⟩
    · rw [if_neg z]
      obtain ⟨c, e1, e2⟩ := sameBut_at e j (lt ea) z
      obtain ⟨c0, o0, f1, f2, f3⟩ := R.cell j a ea
      obtain ⟨c1, o1, g1, g2, g3⟩ := R1.cell j a (x.at ea)
      have k0 : c0 = c := by
        have : some c0 = some c := f1.symm.trans e1
        cases this; rfl
      have k1 : c1 = c := by
        have : some c1 = some c := g1.symm.trans e2
        cases this; rfl
      rw [k0] at f3
      rw [k1] at g3
      exact ⟨c, o1, e1, g2, CR.re x (Mp.Le.refl m) f3 g3⟩
  · rw [AH.get_put] at hj
    by_cases z : j = l
    · rw [if_pos z] at hj
      cases hj
    · rw [if_neg z] at hj
      obtain ⟨c, e1, e2⟩ := sameBut_at e j (lt ea) z
      have : some (Cell.lam i act) = some c := hj.symm.trans e1
      cases this
      exact (R.lam j a i act ea hj).back x (R1.lam j a i act (x.at ea) e2)
def oldW (n : Nat) : W → Bool
  | .ref l => Nat.blt l n
  | _ => true
def sweep (n : Nat) : Sl → Sl
  | [] => []
  | o :: r => (match o with
    | some w => (match oldW n w with
      | true => some w
      | false => none)
    | none => none) :: sweep n r
theorem VR.old {h : AH} {H : Hp} {w : W} {v : V} (R : Rel G m h H) (x : m.Le m1) (o : oldW h.n w = true) (r : VR G m1 w v) : VR G m w v := by
  cases w with
  | ref l =>
    obtain ⟨a, e, q⟩ := r
    have hl : l < m.as.length := by rw [R.len]; exact Nat.le_of_ble_eq_true o
    have e2 : m.as[l]? = some m.as[l] := List.getElem?_eq_getElem hl
    have e3 := x.at e2
    rw [e] at e3
    cases e3
    exact ⟨_, e2, q⟩
  | _ => exact r
theorem SlR.sweep {h : AH} {H : Hp} (R : Rel G m h H) (x : m.Le m1) : ∀ {s : Sl} {σ : St}, SlR G m1 s σ → SlR G m (Pm.sweep h.n s) σ
  | _, _, .nil => .nil
  | _, _, .cons (a := o) a r => by
    refine .cons ?_ (SlR.sweep R x r)
    cases o with
    | none => trivial
    | some w =>
      dsimp only
      cases e : oldW h.n w with
      | false => trivial
      | true =>
        obtain ⟨v, e1, e2⟩ := a
        exact ⟨v, e1, VR.old R x e e2⟩
def trimR (i : Nat) (h : AH) (σ' : Sl) (h' : AH) : SR := match sget σ' i with
  | some (.ref l) => (match h'.get l with
    | some (.lst xs) => (match Nat.blt l h.n && (atomsW xs && (sameBut l h.t h'.t h.n && !isAli (h.get l))) with
      | true => .nx (sweep h.n σ') (h.put l (.lst xs))
      | false => .nx σ' h')
    | _ => .nx σ' h')
  | _ => .nx σ' h'
def sTrim (i : Nat) (b : SM) : SM := fun σ h => match b σ h with
  | .nx σ' h' => trimR i h σ' h'
  | r => r
theorem sTrim_of {i : Nat} {b : SM} {σ σ1 : Sl} {h h1 : AH} {r : SR} (e1 : b σ h = .nx σ1 h1) (e2 : trimR i h σ1 h1 = r) : sTrim i b σ h = r := by
  unfold sTrim
  rw [e1]
  exact e2
theorem pms_trim {st : List Stmt} {b : SM} {i : Nat} (hb : PSs X st (tS G Z b)) : PSs X st (tS G Z (sTrim i b)) := pss_of hb fun D σ H h => by
  obtain ⟨m, h, s, R, S, q⟩ := h
  refine ⟨m, h, s, R, S, ?_⟩
  unfold sTrim at q
  cases e : b s h with
  | nx s1 h1 =>
    rw [e] at q
    dsimp only at q
    unfold trimR at q
    cases e1 : sget s1 i with
    | none => rw [e1] at q; exact q
    | some w =>
      rw [e1] at q
      cases w with
      | ref l =>
        dsimp only at q
        cases e2 : h1.get l with
        | none => rw [e2] at q; exact q
        | some c =>
          rw [e2] at q
          cases c with
          | lst xs =>
            dsimp only at q
            split at q
            · rename_i b
              rw [Bool.and_eq_true, Bool.and_eq_true, Bool.and_eq_true, Bool.not_eq_true'] at b
              intro m' σ' H' x R1 S1
              exact q m σ' H' (Mp.Le.refl m) (R.trim x R1 b.2.2.1 (Nat.le_of_ble_eq_true b.1) e2 b.2.1 b.2.2.2) (SlR.sweep R x S1)
            · exact q
          | _ => exact q
      | _ => exact q
  | _ =>
    rw [e] at q
    exact q
end
/-! ### loops in pieces -/
def forN (J : MIt) (t : Tg) (b : SM) : Nat → Nat → Sl → AH → SR
  | 0, _, σ, h => .nx σ h
  | n + 1, i, σ, h => match J.next i h with
    | .yld x h1 => (match t.put x σ h1 with
      | none => .no
      | some σ1 => match b σ1 h1 with
        | .nx σ2 h2 => forN J t b n (i + 1) σ2 h2
        | _ => .no)
    | _ => .no
def FL (J : MIt) (t : Tg) (b : SM) (i : Nat) (σ : Sl) (h : AH) (r : SR) : Prop := ∀ k, k + i = 1000001 → forLoop J t b k i σ h = r
section
variable {J : MIt} {t : Tg} {b : SM} {i : Nat} {σ σ1 σ2 : Sl} {h h1 h2 : AH} {r : SR} {x : W}
theorem forN_for : ∀ (n i k : Nat) {σ h}, forN J t b n i σ h = .nx σ1 h1 → forLoop J t b (k + n) i σ h = forLoop J t b k (i + n) σ1 h1
  | 0, i, k, σ, h, e => by
    cases e
    rfl
  | n + 1, i, k, σ, h, e => by
    unfold forN at e
    rw [← Nat.add_assoc, forLoop_s]
    split at e
    · rename_i x h2 e1
      (try rw [e1])
      (try dsimp only)
      split at e
      · cases e
      · rename_i σ2 e2
        (try rw [e2])
        (try dsimp only)
        split at e
        · rename_i σ3 h3 e3
          (try rw [e3])
          (try dsimp only)
          rw [forN_for n (i + 1) k e, Nat.add_assoc, Nat.add_comm 1 n]
        · cases e
    · cases e
theorem fl_step (n : Nat) (e : forN J t b n i σ h = .nx σ1 h1) (hi : Nat.ble (i + n) 1000001 = true) (q : FL J t b (i + n) σ1 h1 r) : FL J t b i σ h r := fun k hk => by
  have := Nat.le_of_ble_eq_true hi
  obtain ⟨k', rfl⟩ : ∃ k', k = k' + n := ⟨k - n, by omega⟩
  rw [forN_for n i k' e]
  exact q k' (by omega)
theorem fl_one (e1 : J.next i h = .yld x h1) (e2 : t.put x σ h1 = some σ1) (e3 : b σ1 h1 = .nx σ2 h2) : forN J t b 1 i σ h = .nx σ2 h2 := by
  unfold forN
  rw [e1]
  dsimp only
  rw [e2]
  dsimp only
  rw [e3]
  rfl
theorem fl_stop (e : J.next i h = .stop) (hi : Nat.ble i 1000000 = true) : FL J t b i σ h (.nx σ h) := fun k hk => by
  have := Nat.le_of_ble_eq_true hi
  obtain ⟨k', rfl⟩ : ∃ k', k = k' + 1 := ⟨k - 1, by omega⟩
  rw [forLoop_s, e]
theorem sFor_of {it : IM} (e : it σ h = .ok J h1) (q : FL J t b 0 σ h1 r) : sFor it t b σ h = r := by
  unfold sFor
  rw [e]
  exact q 1000001 rfl
theorem seq_of {A B : SM} (e1 : A σ h = .nx σ1 h1) (e2 : B σ1 h1 = r) : sSeq A B σ h = r := by unfold sSeq; rw [e1]; exact e2
theorem callM_of {n kk : Nat} {ws : List W} {A : SM} (e0 : Nat.beq ws.length kk = true) (e1 : A (start n ws) h = .rt x h1) : callM n kk A ws h = .ok x h1 := v_fn e0 e1
theorem callMk_of {n kk : Nat} {ws : List W} {A : Nat → SM} (e0 : Nat.beq ws.length kk = true) (e1 : A h.k (start n ws) ⟨h.n, h.k + 1, h.s, h.t⟩ = .rt x h1) : callMk n kk A ws h = .ok x h1 := v_fn e0 e1
theorem callL_of {fn : Lm → Fn} {Lx : Sl → Lm} {es : List EM} {ws : List W} {q : Res W} (e1 : evs es σ h = .ok ws h1) (e2 : fn (Lx σ) ws h1 = q) : eCallL fn Lx es σ h = q := by
  unfold eCallL
  rw [e1]
  exact e2
theorem call_of {fn : Fn} {es : List EM} {ws : List W} {q : Res W} (e1 : evs es σ h = .ok ws h1) (e2 : fn ws h1 = q) : eCall fn es σ h = q := by
  unfold eCall
  rw [e1]
  exact e2
theorem ret_of {e : EM} {w : W} (q : e σ h = .ok w h1) : sRet e σ h = .rt w h1 := by unfold sRet; rw [q]; rfl
theorem fnD_of {f : Fn} {ws : List W} {v : W} {q : Res W} (e1 : f ws h = .ok v h1) (e2 : fnD (fun _ _ => .ok v h1) ws h = q) : fnD f ws h = q := by
  unfold fnD at e2 ⊢
  rw [e1]
  exact e2
theorem cutL_of {f : Lm → Fn} {L : Lm} {ws : List W} {v : W} {q : Res W} (e1 : f L ws h = .ok v h1) (e2 : fnD (fun _ _ => .ok v h1) ws h = q) : cutL f L ws h = q := fnD_of e1 e2
end
/-! ### a word for another one -/
section
open L2 (PE)
variable {X : Cx} {G : Gx} {Z : WX}
def eAs (u w : W) (e : EM) : EM := fun σ h => (e σ h).bind fun x h1 => match weq x u with
  | true => .ok w h1
  | false => .no
theorem pm_as {e : Expr} {a : EM} {u w : W} (he : PE X e (tE G Z a)) (hw : ∀ m v, VR G m u v → VR G m w v) : PE X e (tE G Z (eAs u w a)) := pe_of he fun σ H Q h => by
  obtain ⟨m, h, s, R, S, q⟩ := h
  refine ⟨m, h, s, R, S, (Sat.bind (R := VR G) q).imp fun v H1 z => ?_⟩
  obtain ⟨m1, x, h1, l1, R1, ra, q1⟩ := z
  cases e1 : weq x u with
  | false => rw [e1] at q1; exact q1.elim
  | true =>
    rw [e1] at q1
    rw [weq_eq e1] at ra
    exact q1 m1 H1 v (Mp.Le.refl m1) R1 (hw m1 v ra)
end
end Pm
/-! PmOp4: % of a letter. -/
namespace Pm
open PySem PySem.Spec
open L2 (V Hp HO Cx Inv PE PT PA PS PSs PW TE TT TA TS St VK XK WX Ends RelV Vals upd upd_same upd_ne Takes R2 OpR CallR MtR tOp tVar Vis Gl Room Binds)
section
variable {X : Cx} {G : Gx} {Z : WX} {pos : Pos}
theorem or_modS : OpR X (binaryOp .Mod) (rO G oModS) := opr_of L2.op_mod fun x y H Q h => by
  obtain ⟨m, h, a, b, R, ra, rb, q⟩ := h
  cases a with
  | sym k a c =>
    cases b with
    | int j =>
      unfold oModS at q
      dsimp only at q
      cases e : ilt 0 j && ieq (a % j) 0 with
      | false =>
        rw [e] at q
        exact q.elim
      | true =>
        rw [e] at q
        obtain ⟨e1, e2⟩ := Bool.and_eq_true_iff.mp e
        rw [ilt_iff, decide_eq_true_iff] at e1
        have e3 := ieq_eq e2
        refine ⟨a * G.ρ k + c, j, ra, rb, e1, ?_⟩
        have : (a * G.ρ k + c) % j = c % j := by
          obtain ⟨d, hd⟩ := Int.dvd_of_emod_eq_zero e3
          rw [hd, Int.mul_assoc, Int.add_comm, Int.add_mul_emod_self_left]
        show Q (.int ((a * G.ρ k + c) % j)) H
        rw [this]
        exact q m H _ (.refl m) R rfl
    | _ => exact q.elim
  | int i =>
    cases b with
    | int j =>
      unfold oModS oMod at q
      dsimp only at q
      cases e : ilt 0 j with
      | false =>
        rw [e] at q
        exact q.elim
      | true =>
        rw [e] at q
        rw [ilt_iff, decide_eq_true_iff] at e
        exact ⟨i, j, ra, rb, e, q m H _ (.refl m) R rfl⟩
    | _ => exact q.elim
  | _ => exact q.elim
theorem inBT_ok {K : PySem.W.Frag} {m : Mp} {h : AH} {H : Hp} (R : Rel G m h H) {w w' : W} {v v' : V} {b : Bool} (e : inBT h w w' = some b) (r : VR G m w v) (r' : VR G m w' v') :
    ∃ d ds, L2.Dp K H v d ∧ L2.Dp K H v' (.tuple ds) ∧ SeqAt.shaped d = true ∧ SeqAt.shaped (.tuple ds) = true ∧ (ds.any fun z => PyData.eqv z d) = b := by
  unfold inBT at e
  cases e1 : rd 60 h w with
  | none => rw [e1] at e; cases e
  | some d =>
    rw [e1] at e
    dsimp only at e
    cases e2 : rd 60 h w' with
    | none => rw [e2] at e; cases e
    | some d' =>
      rw [e2] at e
      cases d' with
      | tup es =>
        dsimp only at e
        cases e3 : d.fit with
        | none => rw [e3] at e; cases e
        | some p =>
          obtain ⟨w1, k⟩ := p
          rw [e3] at e
          dsimp only at e
          cases e4 : (SD.tup es).fit with
          | none => rw [e4] at e; cases e
          | some p =>
            obtain ⟨w2, k'⟩ := p
            rw [e4] at e
            dsimp only at e
            cases e5 : Nat.ble k 64 && Nat.ble k' 64 with
            | false => rw [e5] at e; cases e
            | true =>
              rw [e5] at e
              obtain ⟨z1, z2⟩ := Bool.and_eq_true_iff.mp e5
              have F1 := SD.fit_ok (G := G) d _ _ e3
              have F2 := SD.fit_ok (G := G) (.tup es) _ _ e4
              have D2 := rd_ok (K := K) R _ _ _ _ e2 r'
              simp only [SD.g] at F2 D2
              exact ⟨_, _, rd_ok R _ _ _ _ e1 r, D2, Bool.and_eq_true_iff.mpr ⟨F1.lay, decide_eq_true (Nat.le_trans F1.dp (Nat.le_of_ble_eq_true z1))⟩,
                Bool.and_eq_true_iff.mpr ⟨F2.lay, decide_eq_true (Nat.le_trans F2.dp (Nat.le_of_ble_eq_true z2))⟩, anyEq_ok d es b e⟩
      | _ => cases e
theorem op_inT (hu : X.A.units + 65 < cLine) : OpR X (compareOp .In) (fun x y H Q => ∃ d ds, L2.Dp X.K H x d ∧ L2.Dp X.K H y (.tuple ds) ∧ SeqAt.shaped d = true ∧ SeqAt.shaped (.tuple ds) = true ∧ Q (.bl (ds.any fun z => PyData.eqv z d)) H) := by
  intro pins s σ H x y v u Q I rx ry h
  obtain ⟨d, ds, hd, he, sd, se, q⟩ := h
  obtain ⟨as, r1⟩ := L2.Dp.reads I d x v hd rx
  obtain ⟨bs, r2⟩ := L2.Dp.reads I (.tuple ds) y u he ry
  exact SeqAt.in_tuple_reads r2 r1 (SeqAt.canLay_of_shaped se) (SeqAt.canLay_of_shaped sd) (PyProof.Rows.room_in_shaped sd hu) ⟨.bl _, H, I, rfl, q⟩
theorem op_notInT (hu : X.A.units + 65 < cLine) : OpR X (compareOp .NotIn) (fun x y H Q => ∃ d ds, L2.Dp X.K H x d ∧ L2.Dp X.K H y (.tuple ds) ∧ SeqAt.shaped d = true ∧ SeqAt.shaped (.tuple ds) = true ∧ Q (.bl (!ds.any fun z => PyData.eqv z d)) H) := by
  intro pins s σ H x y v u Q I rx ry h
  obtain ⟨d, ds, hd, he, sd, se, q⟩ := h
  obtain ⟨as, r1⟩ := L2.Dp.reads I d x v hd rx
  obtain ⟨bs, r2⟩ := L2.Dp.reads I (.tuple ds) y u he ry
  exact SeqAt.notIn_tuple_reads r2 r1 (SeqAt.canLay_of_shaped se) (SeqAt.canLay_of_shaped sd) (PyProof.Rows.room_in_shaped sd hu) ⟨.bl _, H, I, rfl, q⟩
theorem or_inS {k : Nat} (hr : Room k X.A) : OpR X (compareOp .In) (rO G oInS) := opr_of ((or_in (G := G) hr).or (op_inT (by have := hr.un; omega))) fun x y H Q h => by
  obtain ⟨m, h, a, b, R, ra, rb, q⟩ := h
  unfold oInS at q
  cases e : inB h a b with
  | some t =>
    rw [e] at q
    refine .inl ⟨m, h, a, b, R, ra, rb, ?_⟩
    unfold oIn
    rw [e]
    exact q
  | none =>
    rw [e] at q
    dsimp only at q
    cases e2 : inBT h a b with
    | none => rw [e2] at q; exact q.elim
    | some t =>
      rw [e2] at q
      obtain ⟨d, ds, h1, h2, h3, h4, rfl⟩ := inBT_ok (K := X.K) R e2 ra rb
      exact .inr ⟨d, ds, h1, h2, h3, h4, q m H _ (.refl m) R rfl⟩
theorem or_notInS {k : Nat} (hr : Room k X.A) : OpR X (compareOp .NotIn) (rO G oNotInS) := opr_of ((or_notIn (G := G) hr).or (op_notInT (by have := hr.un; omega))) fun x y H Q h => by
  obtain ⟨m, h, a, b, R, ra, rb, q⟩ := h
  unfold oNotInS at q
  cases e : inB h a b with
  | some t =>
    rw [e] at q
    refine .inl ⟨m, h, a, b, R, ra, rb, ?_⟩
    unfold oNotIn
    rw [e]
    exact q
  | none =>
    rw [e] at q
    dsimp only at q
    cases e2 : inBT h a b with
    | none => rw [e2] at q; exact q.elim
    | some t =>
      rw [e2] at q
      obtain ⟨d, ds, h1, h2, h3, h4, rfl⟩ := inBT_ok (K := X.K) R e2 ra rb
      exact .inr ⟨d, ds, h1, h2, h3, h4, q m H _ (.refl m) R rfl⟩
end
end Pm
/-! PmCh3: a op b op c op d as a test. -/
namespace L2
open PySem PySem.Spec PyProof.Rows
section
variable {X : Cx} {a b c d : Expr} {ta tb tc td : TE} {pos : Pos}
def tChain3 (r r' r'' : R2) (ta tb tc td : TE) : TE := fun σ H Q => ta σ H fun x H1 => tb σ H1 fun y H2 => r x y H2 fun z H3 => ∃ k, z = .bl k ∧
  (if k = true then tc σ H3 fun w H4 => r' y w H4 fun z2 H5 => ∃ k2, z2 = .bl k2 ∧ (if k2 = true then td σ H5 fun u H6 => r'' w u H6 Q else Q (.bl false) H5) else Q (.bl false) H3)
theorem pt_chain3 {op op' op'' : CmpOp} {r r' r'' : R2} (ho : OpR X (compareOp op) r) (ho' : OpR X (compareOp op') r') (ho'' : OpR X (compareOp op'') r'') (ha : PE X a ta) (hb : PE X b tb) (hc : PE X c tc) (hd : PE X d td)
    (hm : lastMarks [op, op', op''] [b, c, d] = false := by with_unfolding_all rfl) : PT X (.Compare a [op, op', op''] [b, c, d] pos) (tTest (tChain3 r r' r'' ta tb tc td)) := by
  refine ⟨fun pins s σ H Q I h => ?_⟩
  refine isTrue_chain (thn (ha.run pins s σ H _ I h) fun v s1 ⟨x, H1, I1, r1, q1⟩ => test_link (thn (hb.run pins s1 σ H1 _ I1 q1) fun u s2 ⟨y, H2, I2, r2, q2⟩ =>
    thn (ho pins s2 σ H2 x y v u _ I2 r1 r2 q2) fun d s3 ⟨z, H3, I3, r3, k, e, q3⟩ => ?_)) hm
  subst e
  cases r3
  refine wpAny_truthy_bool ?_
  cases k with
  | false =>
    obtain ⟨k', e', q'⟩ := q3
    cases e'
    exact ite_ff ⟨H3, I3, q'⟩
  | true =>
    refine ite_tt (test_link (thn (hc.run pins s3 σ H3 _ I3 q3) fun w' s4 ⟨z', H4, I4, r4, q4⟩ => thn (ho' pins s4 σ H4 y z' u w' _ I4 r2 r4 q4) fun d' s5 ⟨z2, H5, I5, r5, k2, e2, q5⟩ => ?_))
    subst e2
    cases r5
    refine wpAny_truthy_bool ?_
    cases k2 with
    | false =>
      obtain ⟨k', e', q'⟩ := q5
      cases e'
      exact ite_ff ⟨H5, I5, q'⟩
    | true =>
      refine ite_tt (test_last (thn (hd.run pins s5 σ H5 _ I5 q5) fun v6 s6 ⟨z6, H6, I6, r6, q6⟩ => thn (ho'' pins s6 σ H6 z' z6 w' v6 _ I6 r4 r6 q6) fun d7 s7 ⟨z7, H7, I7, r7, k7, e7, q7⟩ => ?_))
      subst e7
      cases r7
      exact wpAny_truthy_bool ⟨H7, I7, q7⟩
end
end L2
namespace Pm
open PySem PySem.Spec
open L2 (V Hp HO Cx Inv PE PT PA PS PSs PW TE TT TA TS St VK XK WX Ends RelV Vals upd upd_same upd_ne Takes R2 OpR CallR MtR tOp tVar Vis Gl Room Binds)
section
variable {X : Cx} {G : Gx} {Z : WX} {pos : Pos}
def eChain3 (f g k : Op2) (a b c d : EM) : EM := fun σ h => (a σ h).bind fun x h1 => (b σ h1).bind fun y h2 => (ofO (f x y h2)).bind fun t h3 => match t with
  | .bl t => (match t with
    | true => (c σ h3).bind fun z h4 => (ofO (g y z h4)).bind fun t2 h5 => (match t2 with
      | .bl t2 => (match t2 with
        | true => (d σ h5).bind fun u h6 => ofO (k z u h6)
        | false => .ok (.bl false) h5)
      | _ => .no)
    | false => .ok (.bl false) h3)
  | _ => .no
theorem chain3_read {f g k : Op2} {a b c d : EM} {σ : St} {H : Hp} {Q : VK} (h : tE G Z (eChain3 f g k a b c d) σ H Q) : L2.tChain3 (rO G f) (rO G g) (rO G k) (tE G Z a) (tE G Z b) (tE G Z c) (tE G Z d) σ H Q := by
  obtain ⟨m, h, s, R, S, q⟩ := h
  refine ⟨m, h, s, R, S, (Sat.bind (R := VR G) q).imp fun x H1 z => ?_⟩
  obtain ⟨m1, wa, h1, l1, R1, ra, q1⟩ := z
  refine ⟨m1, h1, s, R1, S.mono l1, (Sat.bind (R := VR G) q1).imp fun y H2 z => ?_⟩
  obtain ⟨m2, wb, h2, l2, R2, rb, q2⟩ := z
  refine ⟨m2, h2, wa, wb, R2, ra.mono l2, rb, (Sat.bind (R := VR G) q2).ofO.imp fun v H3 z => ?_⟩
  obtain ⟨m3, t, h3, l3, R3, rt, q3⟩ := z
  cases t with
  | bl k1 =>
    refine ⟨k1, rt, ?_⟩
    cases k1 with
    | false => exact q3 m3 H3 _ (.refl m3) R3 rfl
    | true =>
      refine ⟨m3, h3, s, R3, S.mono ((l1.trans l2).trans l3), (Sat.bind (R := VR G) q3).imp fun u H4 z => ?_⟩
      obtain ⟨m4, wc, h4, l4, R4, rc, q4⟩ := z
      refine ⟨m4, h4, wb, wc, R4, rb.mono (l3.trans l4), rc, (Sat.bind (R := VR G) q4).ofO.imp fun v5 H5 z => ?_⟩
      obtain ⟨m5, t5, h5, l5, R5, rt5, q5⟩ := z
      cases t5 with
      | bl k2 =>
        refine ⟨k2, rt5, ?_⟩
        cases k2 with
        | false => exact q5 m5 H5 _ (.refl m5) R5 rfl
        | true =>
          refine ⟨m5, h5, s, R5, S.mono ((((l1.trans l2).trans l3).trans l4).trans l5), (Sat.bind (R := VR G) q5).imp fun u6 H6 z => ?_⟩
          obtain ⟨m6, wd, h6, l6, R6, rd, q6⟩ := z
          exact ⟨m6, h6, wc, wd, R6, rc.mono (l5.trans l6), rd, q6.ofO⟩
      | _ => exact q5.elim
  | _ => exact q3.elim
theorem pmt_chain3 {op op' op'' : CmpOp} {f g k : Op2} {a b c d : Expr} {ga gb gc gd : EM} (ho : OpR X (compareOp op) (rO G f)) (ho' : OpR X (compareOp op') (rO G g)) (ho'' : OpR X (compareOp op'') (rO G k)) (ha : PE X a (tE G Z ga)) (hb : PE X b (tE G Z gb)) (hc : PE X c (tE G Z gc)) (hd : PE X d (tE G Z gd))
    (hm : lastMarks [op, op', op''] [b, c, d] = false := by with_unfolding_all rfl) : PT X (.Compare a [op, op', op''] [b, c, d] pos) (tC G Z (cVal (eChain3 f g k ga gb gc gd))) := pt_of (L2.pt_chain3 ho ho' ho'' ha hb hc hd hm) fun _ _ _ h => chain3_read (val_read h)
end
end Pm
/-! PmRevL: xs[::0 - 1], xs[::-1]. -/
namespace L2
open PySem PySem.Spec PyProof.Rows
section
variable {X : Cx}
theorem pe_revL2 {e : Expr} {te : TE} {k k0 : Nat} {p0 p1 p2 p3 pos : Pos} (he : PE X e te) : PE X (.Subscript e (.Slice none none (some (.BinOp (.Constant (.int 0) k0 p0) .Sub (.Constant (.int 1) k p1) p2)) p3) pos) (tRevL X.K te) := by
  refine ⟨fun pins s σ H Q I h => ?_⟩
  refine Subscript_ (thn (he.run pins s σ H _ I h) fun v s1 ⟨x, H1, I1, r1, q1⟩ => ?_)
  obtain ⟨a, xs, ex, hx, q⟩ := q1
  subst ex
  cases r1
  have hst : PO X (some (.BinOp (.Constant (.int 0) k0 p0) .Sub (.Constant (.int 1) k p1) p2)) (tPart (tOp (rI0 fun i j => .int (i - j)) (tC (.int 0)) (tC (.int 1)))) := po_some (pe_op op_sub pe_int pe_int)
  refine wpAny_Slice (thn (po_none.run pins s1 σ H1 (fun o H2 => o = none ∧ H2 = H1) I1 ⟨rfl, rfl⟩) fun vl s2 ⟨l, H2, I2, pl, el, e2⟩ => ?_)
  subst el e2
  refine thn (po_none.run pins s2 σ H2 (fun o H3 => o = none ∧ H3 = H2) I2 ⟨rfl, rfl⟩) fun vu s3 ⟨u, H3, I3, pu, eu, e3⟩ => ?_
  subst eu e3
  refine thn (hst.run pins s3 σ H3 (fun o H4 => o = some (-1) ∧ H4 = H3) I3 ⟨0, 1, rfl, rfl, -1, rfl, rfl, rfl⟩) fun vs s4 ⟨o, H4, I4, ps, eo, e4⟩ => ?_
  subst eo e4
  have I5 : Inv X pins σ H4 { s4 with heap := s4.heap.push { cls := .type "slice", data := .fields #[vl, vu, vs] } } := I4.kept (t' := s4.toks) fun b ob q => Heap.get?_push_of_some _ q
  obtain ⟨its, r, ht, hz⟩ := I5.list hx
  have hlen := r.length
  show wpAny (model X.prog X.w) X.A (subscriptTail e (.Slice none none (some (.BinOp (.Constant (.int 0) k0 p0) .Sub (.Constant (.int 1) k p1) p2)) p3) (.ref a) (.ref s4.heap.objs.size)) (EP X pins σ Q) X.xe { s4 with heap := s4.heap.push { cls := .type "slice", data := .fields #[vl, vu, vs] } }
  refine tail_any (ops := [.ref a, .ref s4.heap.objs.size]) ht.isList.typeIs (PySem.slot_list_getitem.lookup) ?_ (by with_unfolding_all rfl)
  refine wpAny_getItem_list_slice ht.isList (Heap.IsSliceOf.new _ vl vu vs) pl pu ps (by decide) ?_ (by rw [List.size_toArray]; omega)
  rw [PySem.W.krv_pick]
  refine ⟨.ref _, _, I5.laid (t' := s4.toks) (o := .lst xs.reverse) (fun b ob q => Heap.get?_push_of_some _ q) (Nat.le_refl _) ?_, rfl, q _ (I5.hok.fresh (Nat.le_refl _))⟩
  exact ⟨by rw [List.length_reverse]; exact hz, _, 0, r.reverse, Heap.get?_push_size _ rfl⟩
end
end L2
namespace Pm
open PySem PySem.Spec
open L2 (V Hp HO Cx Inv PE PT PA PS PSs PW TE TT TA TS St VK XK WX Ends RelV Vals upd upd_same upd_ne Takes R2 OpR CallR MtR tOp tVar Vis Gl Room Binds)
section
variable {X : Cx} {G : Gx} {Z : WX} {pos : Pos}
def oRevL : Op1 := fun x h => match x with
  | .ref l => (match h.get l with
    | some (.lst xs) => some (.ref h.n, h.new (.lst xs.reverse))
    | _ => none)
  | _ => none
theorem vrs_ra {m : Mp} : ∀ {ws as : List W} {vs bs : List V}, VRs G m ws vs → VRs G m as bs → VRs G m (ws.reverseAux as) (vs.reverseAux bs)
  | _, _, _, _, .nil, b => b
  | w :: ws, as, v :: vs, bs, .cons r t, b => by
    show VRs G m (ws.reverseAux (w :: as)) (vs.reverseAux (v :: bs))
    exact vrs_ra t (.cons r b)
theorem revl_read (hK : X.K = G.K) {g : EM} {σ : St} {H : Hp} {Q : VK} (h : tE G Z (eOp1 oRevL g) σ H Q) : L2.tRevL X.K (tE G Z g) σ H Q := by
  obtain ⟨m, h, s, R, S, q⟩ := h
  refine ⟨m, h, s, R, S, (Sat.bind (R := VR G) q).imp fun v H1 z => ?_⟩
  obtain ⟨m1, w, h1, l1, R1, ra, q1⟩ := z
  cases w with
  | ref l =>
    obtain ⟨ad, ha, rfl⟩ := ra
    unfold oRevL at q1
    dsimp only at q1
    cases e1 : h1.get l with
    | none =>
      rw [e1] at q1
      exact q1.elim
    | some c1 =>
      rw [e1] at q1
      cases c1 with
      | lst xs =>
        obtain ⟨_, o1, vs, r1, rfl⟩ := R1.see ha e1
        exact ⟨ad, vs, rfl, .inl (.inl o1), fun p np => new_sat (c := .lst xs.reverse) R1 np ⟨_, (vrs_ra r1 .nil).mono (m1.le_snoc p), rfl⟩ q1⟩
      | _ => exact q1.elim
  | _ => exact q1.elim
theorem pm_revl {e : Expr} {k : Nat} {p1 p2 p3 : Pos} {g : EM} (he : PE X e (tE G Z g)) (hK : X.K = G.K := by rfl) : PE X (.Subscript e (.Slice none none (some (.UnaryOp .USub (.Constant (.int 1) k p1) p2)) p3) pos) (tE G Z (eOp1 oRevL g)) := pe_of (L2.pe_revL he) fun _ _ _ => revl_read hK
theorem pm_revl2 {e : Expr} {k k0 : Nat} {p0 p1 p2 p3 : Pos} {g : EM} (he : PE X e (tE G Z g)) (hK : X.K = G.K := by rfl) : PE X (.Subscript e (.Slice none none (some (.BinOp (.Constant (.int 0) k0 p0) .Sub (.Constant (.int 1) k p1) p2)) p3) pos) (tE G Z (eOp1 oRevL g)) := pe_of (L2.pe_revL2 he) fun _ _ _ => revl_read hK
end
end Pm
/-! PmTupC: t + u of tuples that are not empty. -/
namespace Pm
open PySem PySem.Spec
open L2 (V Hp HO Cx Inv PE PT PA PS PSs PW TE TT TA TS St VK XK WX Ends RelV Vals upd upd_same upd_ne Takes R2 OpR CallR MtR tOp tVar Vis Gl Room Binds)
section
variable {X : Cx} {G : Gx} {Z : WX} {pos : Pos}
def oCatT : Op2 := fun x y h => match x, y with
  | .ref l, .ref l2 => (match h.get l, h.get l2 with
    | some (.tup xs), some (.tup ys) => (match Nat.ble (xs.length + ys.length) 1000000 && (Nat.blt 0 xs.length && Nat.blt 0 ys.length) with
      | true => some (.ref h.n, h.new (.tup (xs ++ ys)))
      | false => none)
    | _, _ => none)
  | _, _ => none
theorem or_catT (hK : X.K = G.K) : OpR X (binaryOp .Add) (rO G oCatT) := opr_of L2.op_catA fun x y H Q h => by
  obtain ⟨m, h, a, b, R, ra, rb, q⟩ := h
  cases a with
  | ref l =>
    cases b with
    | ref l2 =>
      obtain ⟨a, ha, rfl⟩ := ra
      obtain ⟨b, hb, rfl⟩ := rb
      unfold oCatT at q
      dsimp only at q
      cases e1 : h.get l with
      | none =>
        rw [e1] at q
        exact q.elim
      | some c1 =>
        cases e2 : h.get l2 with
        | none =>
          rw [e1, e2] at q
          cases c1 <;> exact q.elim
        | some c2 =>
          rw [e1, e2] at q
          cases c1 with
          | tup xs =>
            cases c2 with
            | tup ys =>
              dsimp only at q
              cases e3 : Nat.ble (xs.length + ys.length) 1000000 && (Nat.blt 0 xs.length && Nat.blt 0 ys.length) with
              | false =>
                rw [e3] at q
                exact q.elim
              | true =>
                rw [e3] at q
                obtain ⟨f1, f2⟩ := Bool.and_eq_true_iff.mp e3
                obtain ⟨f3, f4⟩ := Bool.and_eq_true_iff.mp f2
                obtain ⟨_, o1, vs, r1, rfl⟩ := R.see ha e1
                obtain ⟨_, o2, us, r2, rfl⟩ := R.see hb e2
                have n1 : vs ≠ [] := fun z => by
                  have := vrs_len r1
                  rw [z] at this
                  rw [this] at f3
                  cases f3
                have n2 : us ≠ [] := fun z => by
                  have := vrs_len r2
                  rw [z] at this
                  rw [this] at f4
                  cases f4
                exact ⟨a, b, vs, us, rfl, rfl, .inl (.inl o1), .inl (.inl o2), by rw [← vrs_len r1, ← vrs_len r2]; exact line_ok f1, fun z => absurd z n1, fun _ z => absurd z n2, fun _ _ p np => new_sat (c := .tup (xs ++ ys)) R np ⟨vs ++ us, (vrs_apps r1 r2).mono (m.le_snoc p), rfl⟩ q⟩
            | _ => exact q.elim
          | _ => exact q.elim
    | _ => exact q.elim
  | _ => exact q.elim
end
end Pm
/-! PmPre: two statements that read cells of the script; behind them the heap is put back and letters stand for the numbers. -/
namespace Pm
open PySem PySem.Spec
open L2 (V Hp HO Cx PS PSs WX)
section
variable {X : Cx} {G : Gx} {Z : WX}
theorem pms_pre {st1 st2 : Stmt} {rest : List Stmt} {a1 a2 b : SM} {g : Sl → AH → Option Sl} (h1 : PS X st1 (tS G Z a1)) (h2 : PS X st2 (tS G Z a2)) (h3 : PSs X rest (tS G Z b))
    (hg : ∀ s h s', g s h = some s' → h.s = G.ns → ∃ s1 h1 s2 h2, a1 s h = .nx s1 h1 ∧ a2 s1 h1 = .nx s2 h2 ∧ sameUp h.t h2.t h.n = true ∧ ∀ m m' σ σ', m.Le m' → SlR G m s σ → SlR G m' s2 σ' → SlR G m s' σ') :
    PSs X (st1 :: st2 :: rest) (tS G Z (sPre g b)) := pss_of (L2.pss_cons h1 (L2.pss_cons h2 h3)) fun D σ H h => by
  obtain ⟨m, h, s, R, S, q⟩ := h
  unfold sPre at q
  cases e : g s h with
  | none => rw [e] at q; exact q.elim
  | some s' =>
    rw [e] at q
    obtain ⟨s1, h1, s2, h2, e1, e2, su, sl⟩ := hg s h s' e R.sn
    refine ⟨m, h, s, R, S, ?_⟩
    rw [e1]
    intro m' σ' H' x R' S'
    refine ⟨m', h1, s1, R', S', ?_⟩
    rw [e2]
    intro m'' σ'' H'' x2 R'' S''
    exact ⟨m, h, s', R.cut (x.trans x2) R'' su, sl _ _ _ _ (x.trans x2) S S'', q⟩
end
theorem vc_pre {g : Sl → AH → Option Sl} {b : SM} {s s' : Sl} {h : AH} (e : g s h = some s') (q : chkS (b s' h) = true) : chkS (sPre g b s h) = true := by
  unfold sPre
  rw [e]
  exact q
def cell0 (ns : List Int) : Int := match ns with
  | [] => 0
  | a :: _ => a
def cell1 (ns : List Int) : Int := match ns with
  | [] => 1
  | [_] => 0
  | _ :: b :: _ => b
def rhoOf (ns : List Int) : Nat → Int := fun k => match k with
  | 0 => cell0 ns % 100000000000000000000000000000
  | _ => cell1 ns % 100000000000000000000000000000
theorem rhoOf_ok (ns : List Int) (k : Nat) : 0 ≤ rhoOf ns k ∧ rhoOf ns k ≤ 1000000000000000000000000000000 := by
  unfold rhoOf
  split
  · have := Int.emod_nonneg (cell0 ns) (show (100000000000000000000000000000 : Int) ≠ 0 by decide)
    have := Int.emod_lt_of_pos (cell0 ns) (show (0 : Int) < 100000000000000000000000000000 by decide)
    omega
  · have := Int.emod_nonneg (cell1 ns) (show (100000000000000000000000000000 : Int) ≠ 0 by decide)
    have := Int.emod_lt_of_pos (cell1 ns) (show (0 : Int) < 100000000000000000000000000000 by decide)
    omega
theorem scr_s1 {G : Gx} {m m' : Mp} {v : Option L2.V} (h : S1 G m' (some .scr) v) : S1 G m (some .scr) v := h
theorem low_s1 {G : Gx} {m m' : Mp} {v : Option L2.V} {x : Int} {k : Nat} {a c : Int} (h : S1 G m' (some (.int x)) v) (e : x = a * G.ρ k + c) : S1 G m (some (.sym k a c)) v := by
  obtain ⟨y, h1, h2⟩ := h
  have h3 : y = L2.V.int x := h2
  exact ⟨y, h1, show y = L2.V.int (a * G.ρ k + c) by rw [h3, e]⟩
end Pm
/-! PmTupO: >= of tuples of whole numbers. -/
namespace Pm
open PySem PySem.Spec PyProof.Rows
open L2 (V Hp HO Cx Inv PE OpR R2 SqT EP Vals)
def tge : List Int → List Int → Bool
  | _, [] => true
  | [], _ :: _ => false
  | x :: xs, y :: ys => match ieq x y with
    | true => tge xs ys
    | false => ile y x
theorem lexAt_shift {e e' r r' : Nat → Bool} {z : Bool} (he : ∀ j, e (j + 1) = e' j) (hr : ∀ j, r (j + 1) = r' j) : ∀ (k i : Nat), Ob.lexAt e r z (i + 1) k = Ob.lexAt e' r' z i k
  | 0, i => rfl
  | k + 1, i => by rw [Ob.lexAt_succ, Ob.lexAt_succ, he, hr, lexAt_shift he hr k (i + 1)]
theorem tge_lex : ∀ (ns ms : List Int), Ob.lexAt (fun j => decide (ns.getD j 0 = ms.getD j 0)) (fun j => decide (ms.getD j 0 ≤ ns.getD j 0)) (decide (ns.length ≥ ms.length)) 0 (min ns.length ms.length) = tge ns ms
  | ns, [] => by
    rw [List.length_nil, Nat.min_zero, Ob.lexAt_zero]
    cases ns <;> simp [tge]
  | [], y :: ys => by
    rw [List.length_nil, Nat.zero_min, Ob.lexAt_zero]
    simp [tge]
  | x :: xs, y :: ys => by
    have ih := tge_lex xs ys
    rw [List.length_cons, List.length_cons, Nat.succ_min_succ, Ob.lexAt_succ, lexAt_shift (e' := fun j => decide (xs.getD j 0 = ys.getD j 0)) (r' := fun j => decide (ys.getD j 0 ≤ xs.getD j 0)) (fun j => rfl) (fun j => rfl)]
    rw [show decide (xs.length + 1 ≥ ys.length + 1) = decide (xs.length ≥ ys.length) by simp, ih]
    show (if decide (x = y) = true then tge xs ys else decide (y ≤ x)) = (match ieq x y with | true => tge xs ys | false => ile y x)
    rw [ieq_iff, ile_iff]
    by_cases h : x = y
    · rw [decide_eq_true h, if_pos rfl]
    · rw [decide_eq_false h, if_neg Bool.false_ne_true]
def rGeT (K : PySem.W.Frag) : R2 := fun x y H Q => ∃ (a b : Addr) (ns ms : List Int), x = .ref a ∧ y = .ref b ∧ SqT K H a (ns.map V.int) ∧ SqT K H b (ms.map V.int) ∧ Q (.bl (tge ns ms)) H
theorem op_geT {X : Cx} (hu : X.A.units < cLine) : OpR X (compareOp .GtE) (rGeT X.K) := by
  intro pins s σ H x y v u Q I rx ry h
  obtain ⟨a, b, ns, ms, rfl, rfl, ha, hb, q⟩ := h
  cases rx
  cases ry
  obtain ⟨its, r1, p1, _⟩ := I.tuple ha
  obtain ⟨its2, r2, p2, _⟩ := I.tuple hb
  have i1 : IntsAre its ns := Vals.ints r1
  have i2 : IntsAre its2 ms := Vals.ints r2
  have e1 : its.toArray.size = ns.length := by rw [List.size_toArray]; exact i1.length
  have e2 : its2.toArray.size = ms.length := by rw [List.size_toArray]; exact i2.length
  have at1 : ∀ j (h1 : j < its.toArray.size), ∃ t, its.toArray[j] = .int (ns.getD j 0) t := fun j h1 => PyProof.Rows.IntsAre.int_at i1 _ _ (by simp at h1; simp [h1])
  have at2 : ∀ j (h1 : j < its2.toArray.size), ∃ t, its2.toArray[j] = .int (ms.getD j 0) t := fun j h1 => PyProof.Rows.IntsAre.int_at i2 _ _ (by simp at h1; simp [h1])
  have R := Ob.RcOp.tuples_ge (A := X.A) (s := s) (e := fun j => decide (ns.getD j 0 = ms.getD j 0)) (r := fun j => decide (ms.getD j 0 ≤ ns.getD j 0)) p1 p2 hu (fun j h1 h2 => by
    obtain ⟨t, et⟩ := at1 j h1
    obtain ⟨t', et'⟩ := at2 j h2
    rw [et, et']
    have z : (ns.getD j 0 == ms.getD j 0) = decide (ns.getD j 0 = ms.getD j 0) := by
      by_cases q : ns.getD j 0 = ms.getD j 0
      · rw [decide_eq_true q]; exact beq_iff_eq.mpr q
      · rw [decide_eq_false q]; exact beq_eq_false_iff_ne.mpr q
    rw [← z]
    exact SeqAt.EqAt.int_int _ _ _ _) (fun j h1 h2 _ => by
    obtain ⟨t, et⟩ := at1 j h1
    obtain ⟨t', et'⟩ := at2 j h2
    rw [et, et']
    exact Ob.RcOp.ge_int _ _ _ _)
  rw [e1, e2, tge_lex] at R
  have z : wpAny (model X.prog X.w) X.A (compareOp .GtE (.ref a) (.ref b)) (EP X pins σ Q) X.xe s := R X.prog X.w X.xe (EP X pins σ Q) ⟨.bl _, H, I, rfl, q⟩
  exact z
def wInts : List W → Option (List Int)
  | [] => some []
  | .int i :: r => (match wInts r with
    | some l => some (i :: l)
    | none => none)
  | _ => none
def tInts (h : AH) (x : W) : Option (List Int) := match x with
  | .ref l => (match h.get l with
    | some (.tup xs) => wInts xs
    | _ => none)
  | _ => none
def oGeT : Op2 := fun x y h => match wlt x y with
  | some b => some (.bl (!b), h)
  | none => (match tInts h x with
    | some ns => (match tInts h y with
      | some ms => some (.bl (tge ns ms), h)
      | none => none)
    | none => none)
theorem wInts_ok {G : Gx} {m : Mp} : ∀ {xs : List W} {ns : List Int} {vs : List V}, wInts xs = some ns → VRs G m xs vs → vs = ns.map V.int
  | [], _, _, e, .nil => by cases e; rfl
  | x :: r, ns, _, e, .cons a t => by
    cases x with
    | int i =>
      unfold wInts at e
      split at e
      · rename_i l el
        cases e
        cases a
        rw [wInts_ok el t]
        rfl
      · cases e
    | _ => cases e
theorem tInts_ok {G : Gx} {m : Mp} {h : AH} {H : Hp} {K : PySem.W.Frag} {x : W} {v : V} {ns : List Int} (R : Rel G m h H) (e : tInts h x = some ns) (r : VR G m x v) : ∃ a, v = .ref a ∧ SqT K H a (ns.map V.int) := by
  unfold tInts at e
  split at e
  · rename_i l
    split at e
    · rename_i xs e1
      obtain ⟨a, ha, rfl⟩ := r
      obtain ⟨_, o1, vs, r1, rfl⟩ := R.see ha e1
      rw [wInts_ok e r1] at o1
      exact ⟨a, rfl, .inl (.inl o1)⟩
    · cases e
  · cases e
theorem opr_or {X : Cx} {f : Value → Value → Sem Value} {r1 r2 : R2} (h1 : OpR X f r1) (h2 : OpR X f r2) : OpR X f (fun x y H Q => r1 x y H Q ∨ r2 x y H Q) := fun pins s σ H x y v u Q I rx ry h => h.elim (h1 pins s σ H x y v u Q I rx ry) (h2 pins s σ H x y v u Q I rx ry)
theorem or_geT {X : Cx} {G : Gx} (hu : X.A.units + 200 < cLine) : OpR X (compareOp .GtE) (rO G oGeT) := opr_of (opr_or L2.op_ge (op_geT (by omega))) fun x y H Q h => by
  obtain ⟨m, h, a, b, R, ra, rb, q⟩ := h
  unfold oGeT at q
  cases e : wlt a b with
  | none =>
    rw [e] at q
    dsimp only at q
    cases e1 : tInts h a with
    | none => rw [e1] at q; exact q.elim
    | some ns =>
      rw [e1] at q
      dsimp only at q
      cases e2 : tInts h b with
      | none => rw [e2] at q; exact q.elim
      | some ms =>
        rw [e2] at q
        obtain ⟨p, rfl, s1⟩ := tInts_ok (K := X.K) R e1 ra
        obtain ⟨p', rfl, s2⟩ := tInts_ok (K := X.K) R e2 rb
        exact .inr ⟨p, p', ns, ms, rfl, rfl, s1, s2, q m H _ (.refl m) R rfl⟩
  | some t =>
    rw [e] at q
    obtain ⟨i, j, rfl, rfl, rfl⟩ := wlt_ok e ra rb
    exact .inl ⟨i, j, rfl, rfl, q m H _ (.refl m) R (congrArg V.bl (not_lt_dec i j).symm)⟩
end Pm
/-! PmOp5: a list unpacked. -/
namespace Pm
open PySem PySem.Spec PyProof.Rows
open L2 (V Hp HO Cx Inv PE PT PA PS PSs PW PG PGs PI TE TT TA TS TG TGs TI St VK XK WX Ends RelV Vals upd upd_same upd_ne Takes R2 OpR CallR tOp tVar Vis Gl FnOk Room Binds It)
section
variable {X : Cx} {G : Gx} {Z : WX} {pos : Pos}
def gLs (K : PySem.W.Frag) (n : Nat) (t : TGs) : TG := fun v σ H Q => ∃ a xs, v = .ref a ∧ L2.SqL K H a xs ∧ xs.length = n ∧ t xs σ H Q
theorem pg_ls {es : List Expr} {k : Nat} {t : TGs} {n : Nat} (hc : X.calm = true) (h : PGs X es t)
    (hn : (assignEach es X.env).length = n := by rfl) (hst : (assignEach es X.env).findIdx? (·.1) = none := by rfl) : PG X (.Tuple es k pos) (gLs X.K n t) := by
  refine ⟨fun pins s σ H v u Q I r hw => ?_⟩
  obtain ⟨a, xs, e1, hq, hl, hw⟩ := hw
  subst e1
  cases r
  obtain ⟨its, rv, pl, hz⟩ := I.list hq
  have hl2 : s.heap.IsList a its.toArray := pl.isList
  have hn2 : (assignEach es X.env).length = its.toArray.size := by simp [hn, ← hl, rv.length]
  rw [PyProof.Rows.assign_Tuple]
  refine wpAny_bind (wpAny_standAt ?_)
  unfold unpack
  rw [hn2, hst]
  refine wpAny_bind (wpAny_holding (PySem.W.kun_itemsOf (I.ok.hd hc) hl2 fun h' hx => ?_))
  have I1 : Inv X pins σ H { s with heap := h' } := I.kept (t' := s.toks) fun b o e => hx b o (Nat.ne_of_lt (Heap.lt_size e)) e
  exact h.run pins _ σ H xs _ Q I1 (by simpa using rv) hw
def sTgtL (is : List Nat) (e : EM) : SM := fun σ h => (e σ h).toSR σ fun v h1 => match lst? h1 v with
  | some ws => (match sputs σ is ws with
    | some σ' => .nx σ' h1
    | none => .no)
  | none => .no
theorem pmg_ls {es : List Expr} {k : Nat} {is : List Nat} (hc : X.calm = true) (h : PGs X es (gNs is)) (hn : (assignEach es X.env).length = is.length := by rfl) (hst : (assignEach es X.env).findIdx? (·.1) = none := by rfl) : PG X (.Tuple es k pos) (gLs X.K is.length (gNs is)) := pg_ls hc h hn hst
theorem pms_tgtL {tg e : Expr} {is : List Nat} {g : EM} (he : PE X e (tE G Z g)) (hg : PG X tg (gLs X.K is.length (gNs is))) (hK : X.K = G.K) (hs : swapsWithSole [tg] e pos.line X.env = pure false := by rfl) (hw : swappedStores [tg] e X.env = pure none := by rfl)
    (h1 : (assignEach [tg] X.env).map (·.2) = [assign tg X.env] := by rfl) : PS X (.Assign [tg] e pos) (tS G Z (sTgtL is g)) := ps_of (L2.ps_asg he hg hs hw h1) fun D σ H h =>
  sr_read h fun w v H1 m1 h1 s r R1 S1 q => by
    cases e4 : lst? h1 w with
    | none =>
      rw [e4] at q
      exact q.elim
    | some ws =>
      rw [e4] at q
      dsimp only at q
      cases e5 : sputs s is ws with
      | none =>
        rw [e5] at q
        exact q.elim
      | some s1 =>
        rw [e5] at q
        obtain ⟨a, vs, rfl, rs, hq⟩ := lst_ok (X := X) hK R1 r e4
        exact ⟨a, vs, rfl, hq, (vrs_len rs).symm.trans (sputs_len e5), gNs_read rs e5 S1 fun σ1 S2 _ => q m1 σ1 H1 (.refl m1) R1 S2⟩
end
end Pm
/-! PmTxtAdd: "[" + repr(..) + "]". -/
namespace Pm
open PySem PySem.Spec
open L2 (V Hp HO Cx Inv PE PT PA PS PSs PW TE TT TA TS St VK XK WX Ends RelV Vals upd upd_same upd_ne Takes R2 OpR CallR MtR tOp tVar Vis Gl Room Binds)
section
variable {X : Cx} {G : Gx} {Z : WX} {pos : Pos}
def shortT (d : SD) : Bool := match fitE d with
  | some (w, _) => Nat.ble w 80000
  | none => false
def oAddT : Op2 := fun x y h => match x, y with
  | .txt (.str [91]), .txt (.rep d) => (match shortT d with
    | true => some (.txt (.cat (.str [91]) (.rep d)), h)
    | false => none)
  | .txt (.cat (.str [91]) (.rep d)), .txt (.str [93]) => (match shortT d with
    | true => some (.txt (.rep (.lst [d])), h)
    | false => none)
  | _, _ => none
theorem short_len {d : SD} (e : shortT d = true) : (d.g G.ρ).shown.length ≤ 16161000 := by
  unfold shortT at e
  cases e2 : fitE d with
  | none => rw [e2] at e; cases e
  | some p =>
    obtain ⟨w, k⟩ := p
    rw [e2] at e
    have hw := Nat.le_of_ble_eq_true e
    have F := fitE_ok (G := G) d _ _ e2
    have hh := PyData.shown_le 200 (by decide) (d.g G.ρ) F.ls
    have h2 : (200 + 2) * (d.g G.ρ).weight ≤ 202 * 80000 := Nat.mul_le_mul_left _ (Nat.le_trans F.wt hw)
    omega
theorem br_open : (⟨(([91] : List Nat)).toArray⟩ : Str) = ("[" : Str) := by decide +kernel
theorem br_close : (⟨(([93] : List Nat)).toArray⟩ : Str) = ("]" : Str) := by decide +kernel
theorem shown_one (d : PyData) : (PyData.list [d]).shown = (("[" : Str) ++ d.shown) ++ ("]" : Str) := by
  simp only [PyData.shown, PyData.shownAll]
  unfold listText
  unfold textFrom
  unfold textFrom
  have e : (("[" : Str) ++ (((if (0 : Nat) > 0 then ", " else "" : String)) : Str)) = ("[" : Str) := by decide +kernel
  rw [e]
theorem or_addT : OpR X (binaryOp .Add) (rO G oAddT) := opr_of L2.op_add_str fun x y H Q h => by
  obtain ⟨m, h, a, b, R, ra, rb, q⟩ := h
  unfold oAddT at q
  split at q
  · rename_i d
    cases e : shortT d with
    | false =>
      rw [e] at q
      exact q.elim
    | true =>
      rw [e] at q
      have hz := short_len (G := G) e
      cases ra
      cases rb
      refine ⟨_, _, rfl, rfl, ?_, q m H _ (.refl m) R ?_⟩
      · rw [sizeLine_eq]
        have l1 : (tx (SD.g G.ρ (.str [91]))).length = 1 := rfl
        have l2 : (tx (SD.g G.ρ (.rep d))).length = (d.g G.ρ).shown.length := by simp only [SD.g, tx]
        omega
      · simp only [VR, SD.g, tx]
  · rename_i d
    cases e : shortT d with
    | false =>
      rw [e] at q
      exact q.elim
    | true =>
      rw [e] at q
      have hz := short_len (G := G) e
      cases ra
      cases rb
      refine ⟨_, _, rfl, rfl, ?_, q m H _ (.refl m) R ?_⟩
      · rw [sizeLine_eq]
        have l1 : (tx (SD.g G.ρ (.str [93]))).length = 1 := rfl
        have l2 : (tx (SD.g G.ρ (.cat (.str [91]) (.rep d)))).length = 1 + (d.g G.ρ).shown.length := by
          simp only [SD.g, tx]
          rw [strLen_append]
          rfl
        omega
      · simp only [VR, SD.g, SD.gs, tx]
        rw [shown_one, br_open, br_close]
  · exact q.elim
end
end Pm
/-! PmDict: a dict keyed by tuples of ints: {}, d.get(k, x), d[k] = v, list(d.items()). -/
namespace L2
open PySem PySem.Spec PyProof.Rows
section
variable {X : Cx}
def layP : List (Addr × Addr × V) → Hp → Hp
  | [], H => H
  | (a, k, v) :: r, H => layP r (upd H a (.tup [.ref k, v]))
theorem takeP {pins : List (Addr × Obj)} {σ : St} {H0 : Hp} {s : Shared} {h' : Heap} {tk : Nat} (I0 : Inv X pins σ H0 s) : ∀ (L : List (Addr × Addr × V)) (H1 : Hp), Inv X pins σ H1 { s with heap := h', toks := tk } → (L.map (·.1)).Nodup →
    (∀ z ∈ L, s.heap.objs.size ≤ z.1 ∧ H1 z.1 = none ∧ ∀ H2, ObjOk X.prog X.w H2 h' z.1 (.tup [.ref z.2.1, z.2.2])) → Inv X pins σ (layP L H1) { s with heap := h', toks := tk }
  | [], H1, I1, _, _ => I1
  | (a, k, v) :: L, H1, I1, hn, h => by
    obtain ⟨hb, hnone, ok⟩ := h _ (List.mem_cons_self ..)
    have I2 : Inv X pins σ (upd H1 a (.tup [.ref k, v])) { s with heap := h', toks := tk } := I1.take (h' := h') (t' := tk) (fun b ob _ e => e) (I0.fpOk hb hnone) (ok _)
    rw [List.map_cons, List.nodup_cons] at hn
    exact takeP I0 L _ I2 hn.2 fun z hz => by
      obtain ⟨c1, c2, c3⟩ := h z (List.mem_cons_of_mem _ hz)
      exact ⟨c1, by rw [upd_ne (fun q => hn.1 (by rw [← q]; exact List.mem_map.mpr ⟨z, hz, rfl⟩))]; exact c2, c3⟩
theorem layP_ne : ∀ (L : List (Addr × Addr × V)) (H : Hp) (l : Addr), (∀ z ∈ L, z.1 ≠ l) → layP L H l = H l
  | [], _, _, _ => rfl
  | (a, k, v) :: L, H, l, h => by
    show layP L (upd H a (.tup [.ref k, v])) l = H l
    rw [layP_ne L _ l fun z hz => h z (List.mem_cons_of_mem _ hz)]
    exact upd_ne fun q => h _ (List.mem_cons_self ..) q.symm
def rListIt : List V → Hp → VK → Prop := fun vs H Q => ∃ (p a : Addr) (kvs : List (List Key × V)), vs = [.ref p] ∧ H p = some (DX.itemsO p a) ∧ H a = some (.dT kvs) ∧ kvs.length < 1000001 ∧
  ∀ (L : List (Addr × Addr × V)) (l : Addr), Paired (fun (e : List Key × V) (z : Addr × Addr × V) => H z.2.1 = some (.tup (e.1.map kV)) ∧ e.2 = z.2.2) kvs L → (L.map (·.1)).Nodup → (∀ z ∈ L, H z.1 = none ∧ z.1 ≠ l) → H l = none →
    Q (.ref l) (upd (layP L H) l (.lst (L.map fun z => V.ref z.1)))
theorem pairsD_of {h' : Heap} {s0 : Nat} {H : Hp} : ∀ {kvs : List (List Key × V)} {xs : List (List Key × Addr × Value)} {as : List Addr}, KT H kvs xs → as.length = xs.length → as.Pairwise (· < ·) → (∀ a ∈ as, s0 < a) →
    (∀ (j : Nat) (a : Addr) (x : List Key × Addr × Value), as[j]? = some a → xs[j]? = some x → h'.get? a = some { cls := .type "tuple", data := .seq #[Value.ref x.2.1, x.2.2] }) →
    ∃ L : List (Addr × Addr × V), L.map (·.1) = as ∧ Paired (fun (e : List Key × V) (z : Addr × Addr × V) => H z.2.1 = some (.tup (e.1.map kV)) ∧ e.2 = z.2.2) kvs L ∧
      ∀ z ∈ L, s0 < z.1 ∧ ∃ v, RelV z.2.2 v ∧ h'.get? z.1 = some { cls := .type "tuple", data := .seq #[Value.ref z.2.1, v] }
  | _, _, as, .nil, hl, _, _, _ => by
    cases as with
    | nil => exact ⟨[], rfl, .nil, fun z hz => nomatch hz⟩
    | cons _ _ => cases hl
  | e :: kvs, x :: xs, as, .cons r t, hl, hp, ha, hg => by
    cases as with
    | nil => cases hl
    | cons a as =>
      obtain ⟨L, e1, e2, e3⟩ := pairsD_of (h' := h') (s0 := s0) t (by simpa using hl) (List.pairwise_cons.mp hp).2 (fun b hb => ha b (List.mem_cons_of_mem _ hb)) fun j b y hj hy => hg (j + 1) b y (by simpa using hj) (by simpa using hy)
      refine ⟨(a, x.2.1, e.2) :: L, by rw [List.map_cons, e1], .cons ⟨r.2.1, rfl⟩ e2, fun z hz => ?_⟩
      rcases List.mem_cons.mp hz with rfl | hz
      · exact ⟨ha a (List.mem_cons_self ..), x.2.2, r.2.2, hg 0 a x rfl rfl⟩
      · exact e3 z hz
theorem cr_listIt (hc : X.calm = true) : CallR X (.type "list") rListIt := by
  intro pins s σ H xs us Q I r h
  obtain ⟨p, a, kvs, rfl, hp, ha, hlen, q⟩ := h
  obtain rfl := Vals.ref1 r
  have view : s.heap.IsItemsView p a := (show ObjOk X.prog X.w H s.heap p (DX.itemsO p a) from I.hok p _ hp).1
  obtain ⟨z, hd, xs', rel, o, es, ep, ho, hx, hdat, hes, his, hn⟩ := dt_of I.hok ha
  have l1 : kvs.length = xs'.length := Paired.length rel
  have l2 : es.size = xs'.length := size_of_entries hes
  have hz : es.size ≤ sizeLine := by rw [sizeLine_eq]; omega
  refine PySem.W.dil_call (es := es) (ep := ep) (I.ok.hd hc) view ⟨o, ho, hx, hdat⟩ hz fun h' tk acc c as hk hl has hG hacc => ?_
  have I1 : Inv X pins σ H { s with heap := h', toks := tk } := I.kept (t' := tk) hk
  have lak : as.length = xs'.length := by omega
  have nd : as.Nodup := List.Pairwise.imp (fun h => Nat.ne_of_lt h) hG.rise
  obtain ⟨L, e1, e2, e3⟩ := pairsD_of (h' := h') (s0 := s.heap.objs.size) (H := H) rel lak hG.rise hG.above fun j b x hj hx' => by
    obtain ⟨hj', e4⟩ := hG.pairs j b hj
    have e5 := entry_at hes j
    rw [Array.getElem?_eq_getElem hj', hx'] at e5
    have e6 : es[j] = entryOfKey (tupleKind (mixKind X.prog X.w)) x := Option.some.inj e5
    rw [e4, e6]
    all_goals rfl
  have fr : ∀ b : Addr, s.heap.objs.size ≤ b → H b = none := fun b hb => I.hok.fresh hb
  have I2 := takeP I L H I1 (e1 ▸ nd) fun z hz => by
    obtain ⟨c1, v, c2, c3⟩ := e3 z hz
    refine ⟨Nat.le_of_lt c1, fr _ (Nat.le_of_lt c1), fun H2 => ?_⟩
    exact ⟨by rw [sizeLine_eq]; show 2 ≤ 16777216; omega, [Value.ref z.2.1, v], .cons rfl (.cons c2 .nil), _, c3, rfl, 0, rfl⟩
  have nel : ∀ z ∈ L, z.1 ≠ s.heap.objs.size := fun z hz => Nat.ne_of_gt (e3 z hz).1
  have hnone : layP L H s.heap.objs.size = none := (layP_ne L H _ nel).trans (fr _ (Nat.le_refl _))
  have ll : L.length = kvs.length := (Paired.length e2).symm
  have ea : as.map Value.ref = L.map fun z => Value.ref z.1 := by rw [← e1, List.map_map]; rfl
  have vl : ∀ L : List (Addr × Addr × V), Vals (L.map fun z => V.ref z.1) (L.map fun z => Value.ref z.1) := by
    intro L
    induction L with
    | nil => exact .nil
    | cons z L ih => exact .cons rfl ih
  have I3 : Inv X pins σ (upd (layP L H) s.heap.objs.size (.lst (L.map fun z => V.ref z.1))) { s with heap := h', toks := tk } := I2.take (h' := h') (t' := tk) (fun b ob _ e => e) (I.fpOk (Nat.le_refl _) hnone) (by
    refine ⟨by rw [List.length_map, sizeLine_eq]; omega, L.map fun z => Value.ref z.1, c, vl L, ?_⟩
    rw [hl, ← ea, ← hacc])
  exact ⟨.ref s.heap.objs.size, _, I3, rfl, q L _ e2 (e1 ▸ nd) (fun z hz => ⟨fr _ (Nat.le_of_lt (e3 z hz).1), nel z hz⟩) (fr _ (Nat.le_refl _))⟩
end
end L2
namespace Pm
open PySem PySem.Spec
open L2 (V Hp HO Cx Inv PE PT PA PS PSs PW TE TT TA TS St VK XK WX Ends RelV Vals upd upd_same upd_ne Takes R2 OpR CallR MtR tOp tVar Vis Gl Room Binds)
section
variable {X : Cx} {G : Gx} {Z : WX} {pos : Pos}
def keyI (h : AH) : W → Option (List Int)
  | .ref l => (match h.get l with
    | some (.tup xs) => wints xs
    | some (.ali xs) => wints xs
    | _ => none)
  | _ => none
def atT (k : List Int) : List (List Int × W) → Option W
  | [] => none
  | (k', w) :: r => match ileq k' k with
    | true => some w
    | false => atT k r
def putT0 (k : List Int) (w : W) : List (List Int × W) → List (List Int × W)
  | [] => []
  | (k', u) :: r => match ileq k' k with
    | true => (k', w) :: putT0 k w r
    | false => (k', u) :: putT0 k w r
def putT (k : List Int) (w : W) (kvs : List (List Int × W)) : List (List Int × W) := match atT k kvs with
  | some _ => putT0 k w kvs
  | none => kvs ++ [(k, w)]
def eDT0 : EM := fun _ h => .ok (.ref h.n) (h.new (.dtp []))
def isDT (h : AH) : W → Bool
  | .ref l => (match h.get l with
    | some (.dtp _) => true
    | _ => false)
  | _ => false
def oDTget (x y z : W) (h : AH) : Option (W × AH) := match x with
  | .ref l => (match h.get l with
    | some (.dtp kvs) => (match keyI h y with
      | some k => (match atT k kvs with
        | some w => some (w, h)
        | none => some (z, h))
      | none => none)
    | _ => none)
  | _ => none
def eDTget (a b c : EM) : EM := fun σ h => (a σ h).bind fun x h1 => match isDT h1 x with
  | true => (b σ h1).bind fun y h2 => (c σ h2).bind fun z h3 => ofO (oDTget x y z h3)
  | false => .no
def oDTset (o i v : W) (h : AH) : Option AH := match o with
  | .ref l => (match h.get l with
    | some (.dtp kvs) => (match keyI h i with
      | some k => (match Nat.blt kvs.length 1000000 with
        | true => some (h.put l (.dtp (putT k v kvs)))
        | false => none)
      | none => none)
    | _ => none)
  | _ => none
def layD : List (List Int × W) → AH → AH
  | [], h => h
  | (k, w) :: r, h => layD r ((h.new (.ali (k.map .int))).new (.tup [.ref h.n, w]))
def pairsD : Nat → List (List Int × W) → List W
  | _, [] => []
  | n, _ :: r => .ref (n + 1) :: pairsD (n + 2) r
def oDTitems : Op1 := fun x h => match x with
  | .ref l => (match h.get l with
    | some (.dtp kvs) => (match Nat.blt kvs.length 1000000 with
      | true => some (.ref (layD kvs h).n, (layD kvs h).new (.lst (pairsD h.n kvs)))
      | false => none)
    | _ => none)
  | _ => none
theorem isDT_ok {m : Mp} {h : AH} {H : Hp} {w : W} {v : V} (R : Rel G m h H) (r : VR G m w v) (e : isDT h w = true) : ∃ (l : Loc) (a : Addr) (kvs : List (List Int × W)) (kv : List (List L2.Key × V)), w = .ref l ∧ v = .ref a ∧ h.get l = some (.dtp kvs) ∧ m.as[l]? = some a ∧ H a = some (.dT kv) ∧
    Paired (fun (p : List Int × W) (q : List L2.Key × V) => p.1.map Sum.inl = q.1 ∧ VR G m p.2 q.2) kvs kv := by
  cases w with
  | ref l =>
    obtain ⟨a, ha, rfl⟩ := r
    unfold isDT at e
    dsimp only at e
    cases e1 : h.get l with
    | none => rw [e1] at e; cases e
    | some c =>
      rw [e1] at e
      cases c with
      | dtp kvs =>
        obtain ⟨_, o1, kv, r1, rfl⟩ := R.see ha e1
        exact ⟨l, a, kvs, kv, rfl, rfl, e1, ha, o1, r1⟩
      | _ => cases e
  | _ => cases e
theorem map_kV (is : List Int) : is.map V.int = (is.map Sum.inl).map L2.kV := by
  rw [List.map_map]
  rfl
theorem keyI_ok {m : Mp} {h : AH} {H : Hp} {w : W} {v : V} {k : List Int} (R : Rel G m h H) (r : VR G m w v) (e : keyI h w = some k) : ∃ b, v = .ref b ∧ H b = some (.tup ((k.map Sum.inl).map L2.kV)) := by
  cases w with
  | ref l =>
    obtain ⟨a, ha, rfl⟩ := r
    unfold keyI at e
    dsimp only at e
    cases e1 : h.get l with
    | none => rw [e1] at e; cases e
    | some c =>
      rw [e1] at e
      cases c with
      | tup xs =>
        obtain ⟨_, o1, vs, r1, rfl⟩ := R.see ha e1
        exact ⟨a, rfl, by rw [o1, wints_ok r1 e, map_kV]⟩
      | ali xs =>
        obtain ⟨_, o1, vs, r1, rfl⟩ := R.see ha e1
        exact ⟨a, rfl, by rw [o1, wints_ok r1 e, map_kV]⟩
      | _ => cases e
  | _ => cases e
theorem map_inl_inj : ∀ {a b : List Int}, a.map (Sum.inl (β := Str)) = b.map Sum.inl → a = b
  | [], [], _ => rfl
  | x :: a, y :: b, h => by
    rw [List.map_cons, List.map_cons] at h
    injection h with h1 h2
    rw [Sum.inl.inj h1, map_inl_inj h2]
  | [], _ :: _, h => nomatch h
  | _ :: _, [], h => nomatch h
theorem ileq_of (a b : List Int) : ileq a b = decide (a.map (Sum.inl (β := Str)) = b.map Sum.inl) := by
  by_cases z : a = b
  · subst z
    rw [decide_eq_true rfl]
    induction a with
    | nil => rfl
    | cons x r ih =>
      unfold ileq
      rw [ih]
      simp [ieq_iff]
  · have n : ¬ a.map (Sum.inl (β := Str)) = b.map Sum.inl := fun q => z (map_inl_inj q)
    rw [decide_eq_false n]
    cases e : ileq a b with
    | false => rfl
    | true => exact absurd (ileq_eq e) z
theorem atT_ok {m : Mp} (k : List Int) : ∀ {kvs : List (List Int × W)} {kv : List (List L2.Key × V)}, Paired (fun (p : List Int × W) (q : List L2.Key × V) => p.1.map Sum.inl = q.1 ∧ VR G m p.2 q.2) kvs kv →
    (∀ w, atT k kvs = some w → ∃ v, L2.valV kv (k.map Sum.inl) = some v ∧ VR G m w v) ∧ (atT k kvs = none → L2.valV kv (k.map Sum.inl) = none)
  | _, _, .nil => ⟨fun _ e => (nomatch e), fun _ => rfl⟩
  | p :: kvs, q :: kv, .cons r t => by
    obtain ⟨i1, i2⟩ := atT_ok k t
    have e := ileq_of p.1 k
    rw [r.1] at e
    show (∀ w, (match ileq p.1 k with | true => some p.2 | false => atT k kvs) = some w → _) ∧ ((match ileq p.1 k with | true => some p.2 | false => atT k kvs) = none → _)
    cases z : ileq p.1 k with
    | true =>
      rw [z] at e
      have z2 : q.1 = k.map Sum.inl := of_decide_eq_true e.symm
      refine ⟨fun w hw => ?_, fun hw => (nomatch hw)⟩
      cases hw
      exact ⟨q.2, L2.valV_pos z2, r.2⟩
    | false =>
      rw [z] at e
      have z2 : ¬ q.1 = k.map Sum.inl := of_decide_eq_false e.symm
      refine ⟨fun w hw => ?_, fun hw => ?_⟩
      · rw [L2.valV_neg z2]
        exact i1 w hw
      · rw [L2.valV_neg z2]
        exact i2 hw
theorem putT_ok {m : Mp} (k : List Int) {w : W} {v : V} (rv : VR G m w v) {kvs : List (List Int × W)} {kv : List (List L2.Key × V)} (r : Paired (fun (p : List Int × W) (q : List L2.Key × V) => p.1.map Sum.inl = q.1 ∧ VR G m p.2 q.2) kvs kv) :
    Paired (fun (p : List Int × W) (q : List L2.Key × V) => p.1.map Sum.inl = q.1 ∧ VR G m p.2 q.2) (putT k w kvs) (L2.putK kv (k.map Sum.inl) v) := by
  have z0 : ∀ {kvs : List (List Int × W)} {kv : List (List L2.Key × V)}, Paired (fun (p : List Int × W) (q : List L2.Key × V) => p.1.map Sum.inl = q.1 ∧ VR G m p.2 q.2) kvs kv →
      Paired (fun (p : List Int × W) (q : List L2.Key × V) => p.1.map Sum.inl = q.1 ∧ VR G m p.2 q.2) (putT0 k w kvs) (kv.map fun e => if e.1 = k.map Sum.inl then (e.1, v) else e) := by
    intro kvs kv r
    induction r with
    | nil => exact .nil
    | @cons p q kvs kv a t ih =>
      have e := ileq_of p.1 k
      rw [a.1] at e
      show Paired _ (match ileq p.1 k with | true => (p.1, w) :: putT0 k w kvs | false => (p.1, p.2) :: putT0 k w kvs) _
      rw [List.map_cons]
      cases z : ileq p.1 k with
      | true =>
        rw [z] at e
        rw [if_pos (of_decide_eq_true e.symm)]
        exact .cons ⟨a.1, rv⟩ ih
      | false =>
        rw [z] at e
        rw [if_neg (of_decide_eq_false e.symm)]
        exact .cons a ih
  have sn : ∀ {kvs : List (List Int × W)} {kv : List (List L2.Key × V)}, Paired (fun (p : List Int × W) (q : List L2.Key × V) => p.1.map Sum.inl = q.1 ∧ VR G m p.2 q.2) kvs kv →
      Paired (fun (p : List Int × W) (q : List L2.Key × V) => p.1.map Sum.inl = q.1 ∧ VR G m p.2 q.2) (kvs ++ [(k, w)]) (kv ++ [(k.map Sum.inl, v)]) := by
    intro kvs kv r
    induction r with
    | nil => exact .cons ⟨rfl, rv⟩ .nil
    | cons a _ ih => exact .cons a ih
  obtain ⟨i1, i2⟩ := atT_ok k r
  unfold putT L2.putK
  rw [L2.valV_any]
  cases e : atT k kvs with
  | some u =>
    obtain ⟨v', e1, _⟩ := i1 u e
    rw [e1]
    exact z0 r
  | none =>
    rw [i2 e]
    exact sn r
theorem Rel.ali {m : Mp} {h : AH} {H : Hp} (R : Rel G m h H) {p : Addr} {ws : List W} {vs : List V} (np : H p = some (.tup vs)) (r : VRs G m ws vs) : Rel G (m.snoc p) (h.new (.ali ws)) H where
  pre := R.pre.trans (m.le_snoc p)
  len := by
    show (m.as ++ [p]).length = h.n + 1
    rw [List.length_append, R.len]
    rfl
  act := R.act
  sn := R.sn
  nd := fun i j a e1 e2 => by
    have old : ∀ {l : Nat} {a : Addr}, (m.as ++ [p])[l]? = some a → l ≠ h.n → m.as[l]? = some a := fun {l a} e hl => by
      obtain ⟨hi, _⟩ := List.getElem?_eq_some_iff.mp e
      have hi2 : l < m.as.length + 1 := by simpa using hi
      rw [List.getElem?_append_left (Nat.lt_of_le_of_ne (Nat.le_of_lt_succ hi2) fun z => hl (z.trans R.len))] at e
      exact e
    by_cases h1 : i = h.n
    · exact .inr (.inl (by rw [AH.get_new, if_pos h1]; rfl))
    · by_cases h2 : j = h.n
      · exact .inr (.inr (by rw [AH.get_new, if_pos h2]; rfl))
      · rw [AH.get_new, AH.get_new, if_neg h1, if_neg h2]
        exact R.nd i j a (old e1 h1) (old e2 h2)
  cell := fun l a e => by
    have e' : (m.as ++ [p])[l]? = some a := e
    rw [AH.get_new]
    by_cases hl : l = h.n
    · rw [if_pos hl]
      rw [hl, ← R.len, List.getElem?_concat_length] at e'
      cases e'
      exact ⟨_, _, rfl, np, vs, r.mono (m.le_snoc p), rfl⟩
    · rw [if_neg hl]
      have lt : l < m.as.length := by
        obtain ⟨hi, _⟩ := List.getElem?_eq_some_iff.mp e'
        have hi2 : l < m.as.length + 1 := by simpa using hi
        exact Nat.lt_of_le_of_ne (Nat.le_of_lt_succ hi2) fun z => hl (z.trans R.len)
      rw [List.getElem?_append_left lt] at e'
      obtain ⟨c', o', e1, e2, e3⟩ := R.cell l a e'
      exact ⟨c', o', e1, e2, e3.mono (m.le_snoc p)⟩
  tab := R.tab
  scr := R.scr
  lam := fun l a i act e hc => by
    rw [AH.get_new] at hc
    by_cases hl : l = h.n
    · rw [if_pos hl] at hc
      cases hc
    · rw [if_neg hl] at hc
      have e' : (m.as ++ [p])[l]? = some a := e
      have lt : l < m.as.length := by
        obtain ⟨hi, _⟩ := List.getElem?_eq_some_iff.mp e'
        have hi2 : l < m.as.length + 1 := by simpa using hi
        exact Nat.lt_of_le_of_ne (Nat.le_of_lt_succ hi2) fun z => hl (z.trans R.len)
      rw [List.getElem?_append_left lt] at e'
      exact (R.lam l a i act e' hc).mono (m.le_snoc p) fun b φ z => z
theorem at_snoc {m : Mp} {h : AH} {H : Hp} (R : Rel G m h H) (p : Addr) : (m.snoc p).as[h.n]? = some p := by
  show (m.as ++ [p])[h.n]? = some p
  rw [← R.len]
  exact List.getElem?_concat_length
theorem lay_rel {L : List (Addr × Addr × V)} : ∀ {kvs : List (List Int × W)} {kv : List (List L2.Key × V)} {m : Mp} {h : AH} {H : Hp}, Rel G m h H →
    Paired (fun (p : List Int × W) (q : List L2.Key × V) => p.1.map Sum.inl = q.1 ∧ VR G m p.2 q.2) kvs kv → Paired (fun (e : List L2.Key × V) (z : Addr × Addr × V) => H z.2.1 = some (.tup (e.1.map L2.kV)) ∧ e.2 = z.2.2) kv L →
    (L.map (·.1)).Nodup → (∀ z ∈ L, H z.1 = none) → ∃ m', m.Le m' ∧ Rel G m' (layD kvs h) (L2.layP L H) ∧ VRs G m' (pairsD h.n kvs) (L.map fun z => V.ref z.1) := by
  induction L with
  | nil =>
    intro kvs kv m h H R r e _ _
    cases e
    cases r
    exact ⟨m, .refl m, R, .nil⟩
  | cons z L ih =>
    intro kvs kv m h H R r e nd fr
    cases e with
    | @cons q _ kv _ a b =>
      cases r with
      | @cons p _ kvs _ r t =>
        rw [List.map_cons, List.nodup_cons] at nd
        have fz := fr z (List.mem_cons_self ..)
        have R1 : Rel G (m.snoc z.2.1) (h.new (.ali (p.1.map .int))) H := R.ali a.1 (by rw [← r.1, ← map_kV]; exact vrs_ints _)
        have e1 := at_snoc R z.2.1
        have vr : VR G ((m.snoc z.2.1).snoc z.1) p.2 z.2.2 := a.2 ▸ (r.2.mono ((m.le_snoc _).trans (Mp.le_snoc _ _)))
        have vk : VR G ((m.snoc z.2.1).snoc z.1) (.ref h.n) (.ref z.2.1) := ⟨z.2.1, (Mp.le_snoc _ z.1).at e1, rfl⟩
        have R2 : Rel G ((m.snoc z.2.1).snoc z.1) ((h.new (.ali (p.1.map .int))).new (.tup [.ref h.n, p.2])) (upd H z.1 (.tup [.ref z.2.1, z.2.2])) := R1.new fz ⟨[.ref z.2.1, z.2.2], .cons vk (.cons vr .nil), rfl⟩
        have e2 := at_snoc R1 z.1
        have t2 := L2.Paired.mapP (G := fun (p : List Int × W) (q : List L2.Key × V) => p.1.map Sum.inl = q.1 ∧ VR G ((m.snoc z.2.1).snoc z.1) p.2 q.2) t fun _ _ y => ⟨y.1, y.2.mono ((m.le_snoc _).trans (Mp.le_snoc _ _))⟩
        have b2 := L2.Paired.mapP (G := fun (e : List L2.Key × V) (y : Addr × Addr × V) => upd H z.1 (.tup [.ref z.2.1, z.2.2]) y.2.1 = some (.tup (e.1.map L2.kV)) ∧ e.2 = y.2.2) b fun _ _ y => ⟨by rw [upd_ne (L2.ne_of_none y.1 fz)]; exact y.1, y.2⟩
        obtain ⟨m', l', R', V'⟩ := ih R2 t2 b2 nd.2 fun y hy => by
          rw [upd_ne fun w => nd.1 (by rw [← w]; exact List.mem_map.mpr ⟨y, hy, rfl⟩)]
          exact fr y (List.mem_cons_of_mem _ hy)
        refine ⟨m', ((m.le_snoc _).trans (Mp.le_snoc _ _)).trans l', R', ?_⟩
        exact .cons ⟨z.1, l'.at e2, rfl⟩ V'
/-! ### the rules -/
theorem pm_dictT : PE X (.Dict [] [] pos) (tE G Z eDT0) := pe_of L2.pe_dnewT fun σ H Q h => by
  obtain ⟨m, h', sl, R, S, z⟩ := h
  exact fun p np => new_sat (c := .dtp []) R np ⟨[], .nil, rfl⟩ z
theorem pm_dtget {k : Nat} {o e f : Expr} {apos cpos : Pos} {go ge gf : EM} (hr : Room k X.A) (ho : PE X o (tE G Z go)) (he : PE X e (tE G Z ge)) (hf : PE X f (tE G Z gf)) (m : L2.M2 X o "get" apos e f cpos) :
    PE X (.Call (.Attribute o "get" apos) [e, f] [] cpos) (tE G Z (eDTget go ge gf)) :=
  pe_of (L2.pe_dget2 (by have := hr.un; omega) ho he hf m) fun σ H Q h => by
    obtain ⟨m, h, s, R, S, q⟩ := h
    refine ⟨m, h, s, R, S, (Sat.bind (R := VR G) q).imp fun x H1 z => ?_⟩
    obtain ⟨m1, w, h1, l1, R1, ra, q1⟩ := z
    cases ec : isDT h1 w with
    | false =>
      rw [ec] at q1
      exact q1.elim
    | true =>
      rw [ec] at q1
      obtain ⟨l, a, kvs, kv, rfl, rfl, c1, c2, c3, c4⟩ := isDT_ok R1 ra ec
      refine ⟨a, rfl, .inr ⟨kv, .inl c3⟩, m1, h1, s, R1, S.mono l1, (Sat.bind (R := VR G) q1).imp fun y H2 z => ?_⟩
      obtain ⟨m2, w2, h2, l2, R2, rb, q2⟩ := z
      refine ⟨m2, h2, s, R2, S.mono (l1.trans l2), (Sat.bind (R := VR G) q2).imp fun y3 H3 z => ?_⟩
      obtain ⟨m3, w3, h3, l3, R3, rc, q3⟩ := z
      have q3 := q3.ofO (E' := fun _ _ _ => False)
      unfold oDTget at q3
      dsimp only at q3
      cases e1 : h3.get l with
      | none => rw [e1] at q3; exact q3.elim
      | some c =>
        rw [e1] at q3
        cases c with
        | dtp kvs3 =>
          dsimp only at q3
          cases e2 : keyI h3 w2 with
          | none => rw [e2] at q3; exact q3.elim
          | some ks =>
            rw [e2] at q3
            dsimp only at q3
            obtain ⟨_, o1, kv3, r3, rfl⟩ := R3.see ((l2.trans l3).at c2) e1
            obtain ⟨b, rfl, eb⟩ := keyI_ok R3 (rb.mono l3) e2
            obtain ⟨i1, i2⟩ := atT_ok ks r3
            refine ⟨_, L2.DGet.t o1 eb, ?_⟩
            cases e4 : atT ks kvs3 with
            | some u =>
              rw [e4] at q3
              obtain ⟨v', e5, rv⟩ := i1 u e4
              rw [e5]
              exact q3 m3 H3 v' (.refl m3) R3 rv
            | none =>
              rw [e4] at q3
              rw [i2 e4]
              exact q3 m3 H3 y3 (.refl m3) R3 rc
        | _ => exact q3.elim
theorem ps_setDT {k : Nat} (hr : Room k X.A) : L2.PSet X (rS G oDTset) := pset_of (L2.set_dict (by have := hr.un; omega)) fun o i v H Q h => by
  obtain ⟨m, h, a, b, c, h', R, ra, rb, rc, e, q⟩ := h
  cases a with
  | ref l =>
    obtain ⟨a, ha, rfl⟩ := ra
    unfold oDTset at e
    dsimp only at e
    cases e1 : h.get l with
    | none => rw [e1] at e; cases e
    | some c1 =>
      rw [e1] at e
      cases c1 with
      | dtp kvs =>
        dsimp only at e
        cases e2 : keyI h b with
        | none => rw [e2] at e; cases e
        | some ks =>
          rw [e2] at e
          dsimp only at e
          cases e3 : Nat.blt kvs.length 1000000 with
          | false => rw [e3] at e; cases e
          | true =>
            rw [e3] at e
            cases e
            obtain ⟨_, o1, kv, r1, rfl⟩ := R.see ha e1
            obtain ⟨b', rfl, eb⟩ := keyI_ok R rb e2
            have hl : kv.length = kvs.length := (Paired.length r1).symm
            exact ⟨a, _, rfl, L2.DPut.t o1 eb (by rw [hl]; exact line_lt e3), q m _ (.refl m) (R.put (c' := .dtp (putT ks c kvs)) ha e1 rfl ⟨_, putT_ok ks rc r1, rfl⟩)⟩
      | _ => cases e
  | _ => cases e
theorem Rel.heap {m : Mp} {h : AH} {H : Hp} (R : Rel G m h H) {p : Addr} {o : HO} (np : H p = none) : Rel G m h (upd H p o) where
  pre := R.pre
  len := R.len
  act := R.act
  sn := R.sn
  nd := R.nd
  cell := fun l a e => by
    obtain ⟨c', o', e1, e2, e3⟩ := R.cell l a e
    exact ⟨c', o', e1, by rw [upd_ne (L2.ne_of_none e2 np)]; exact e2, e3⟩
  tab := R.tab.ext fun b u q => by
    rw [upd_ne (L2.ne_of_none q np)]
    exact q
  scr := sq_upd R.scr fun ob z => by
    rw [np] at z
    cases z
  lam := fun l a i act e hc => (R.lam l a i act e hc).mono (.refl m) fun b φ z => by
    rw [upd_ne (L2.ne_of_none z np)]
    exact z
theorem pm_dtitems {x : Str} {p : Pos} {o : Expr} {apos cpos : Pos} {go : EM} (hc : X.calm = true) (hg : Gl X x) (hm : X.mg x = none) (hv : bootBuiltins x = some (.type "list")) (ho : PE X o (tE G Z go))
    (hn : x ≠ "__name__" := by decide) (hdb : (x == ("__debug__" : Str)) = false := by decide)
    (he : starEach [.Call (.Attribute o "items" apos) [] [] cpos] X.env = (false, eval (.Call (.Attribute o "items" apos) [] [] cpos) X.env) :: starEach [] X.env := by rfl) (hpl : (backTo pos (starEach [] X.env)).any (·.1) = false := by rfl)
    (hbase : attributeBase o "items" X.env (eval o X.env) = eval o X.env := by rfl) (hline : (apos.endLine == cpos.line) = true := by rfl) :
    PE X (.Call (.Name x p) [.Call (.Attribute o "items" apos) [] [] cpos] [] pos) (tE G Z (eOp1 oDTitems go)) :=
  pe_of (L2.pe_callTy (L2.cr_listIt hc) hg hm hv (L2.pa_cons (L2.pe_bm0 PySem.F.plainAttrs_dict PySem.F.slot_dict_items PySem.F.type_dict_items L2.DX.mt_itemsT ho hbase hline) L2.pa_nil he) hn hdb he hpl) fun σ H Q h => by
    obtain ⟨m, h, s, R, S, q⟩ := h
    refine ⟨m, h, s, R, S, (Sat.bind (R := VR G) q).imp fun x H1 z => ?_⟩
    obtain ⟨m1, w, h1, l1, R1, ra, q1⟩ := z
    have q1 := q1.ofO (E' := fun _ _ _ => False)
    unfold oDTitems at q1
    cases w with
    | ref l =>
      obtain ⟨a, ha, rfl⟩ := ra
      dsimp only at q1
      cases e1 : h1.get l with
      | none => rw [e1] at q1; exact q1.elim
      | some c =>
        rw [e1] at q1
        cases c with
        | dtp kvs =>
          dsimp only at q1
          cases e2 : Nat.blt kvs.length 1000000 with
          | false => rw [e2] at q1; exact q1.elim
          | true =>
            rw [e2] at q1
            obtain ⟨_, o1, kv, r1, rfl⟩ := R1.see ha e1
            have hl : kv.length = kvs.length := (Paired.length r1).symm
            have hl2 := Nat.le_of_ble_eq_true e2
            refine ⟨.inr (.inr (.inl ⟨rfl, .inr ⟨kv, o1⟩⟩)), a, kv, rfl, rfl, o1, fun pv npv => ?_⟩
            have nav : a ≠ pv := fun z => by rw [← z, o1] at npv; cases npv
            refine ⟨pv, a, kv, rfl, upd_same, by rw [upd_ne nav]; exact o1, by rw [hl]; omega, fun L lv e3 e4 e5 e6 => ?_⟩
            have RV : Rel G m1 h1 (upd H1 pv (L2.DX.itemsO pv a)) := R1.heap npv
            obtain ⟨m', l', R', V'⟩ := lay_rel RV r1 e3 e4 fun z hz => (e5 z hz).1
            have np : L2.layP L (upd H1 pv (L2.DX.itemsO pv a)) lv = none := (L2.layP_ne L _ lv fun z hz => (e5 z hz).2).trans e6
            have z2 := new_sat (Q := Q) (E := fun _ _ _ => False) (c := .lst (pairsD h1.n kvs)) R' np ⟨_, V'.mono (m'.le_snoc lv), rfl⟩ (fun m'' H'' b'' x => q1 m'' H'' b'' (l'.trans x))
            exact z2
        | _ => exact q1.elim
    | _ => exact q1.elim
end
end Pm
/-! PmIDict: dicts keyed by ints: d.get(k, x), d[k] = v, {k: v for ..}. -/
namespace Pm
open PySem PySem.Spec
open L2 (V Hp HO Cx Inv PE PT PA PS PSs PW PI PG TE TT TA TS TG TI St VK XK WX Ends RelV Vals upd upd_same upd_ne Takes R2 OpR CallR MtR tOp tVar Vis Gl Room Binds)
section
variable {X : Cx} {G : Gx} {Z : WX} {pos : Pos}
abbrev DPr (G : Gx) (m : Mp) (p : DKey × W) (q : L2.Key × V) : Prop := kof p.1 = q.1 ∧ VR G m p.2 q.2
theorem keyQ_ok (k : Int) (a : DKey) : keyQ k a = decide (kof a = (Sum.inl k : L2.Key)) := by
  cases a with
  | inl i =>
    show ieq i k = decide ((Sum.inl i : L2.Key) = Sum.inl k)
    rw [ieq_iff]
    exact decide_eq_decide.mpr ⟨fun e => e ▸ rfl, fun e => Sum.inl.inj e⟩
  | inr x =>
    show false = decide ((Sum.inr _ : L2.Key) = Sum.inl k)
    exact (decide_eq_false fun e => nomatch e).symm
theorem atI_ok {m : Mp} (k : Int) : ∀ {kvs : List (DKey × W)} {kv : List (L2.Key × V)}, Paired (DPr G m) kvs kv →
    (∀ w, atI k kvs = some w → ∃ v, L2.valV kv (Sum.inl k) = some v ∧ VR G m w v) ∧ (atI k kvs = none → L2.valV kv (Sum.inl k) = none)
  | _, _, .nil => ⟨fun _ e => (nomatch e), fun _ => rfl⟩
  | p :: kvs, q :: kv, .cons r t => by
    obtain ⟨i1, i2⟩ := atI_ok k t
    have e := keyQ_ok k p.1
    rw [r.1] at e
    show (∀ w, (match keyQ k p.1 with | true => some p.2 | false => atI k kvs) = some w → _) ∧ ((match keyQ k p.1 with | true => some p.2 | false => atI k kvs) = none → _)
    cases z : keyQ k p.1 with
    | true =>
      rw [z] at e
      have z2 : q.1 = Sum.inl k := of_decide_eq_true e.symm
      refine ⟨fun w hw => ?_, fun hw => (nomatch hw)⟩
      cases hw
      exact ⟨q.2, L2.valV_pos z2, r.2⟩
    | false =>
      rw [z] at e
      have z2 : ¬ q.1 = Sum.inl k := of_decide_eq_false e.symm
      refine ⟨fun w hw => ?_, fun hw => ?_⟩
      · rw [L2.valV_neg z2]
        exact i1 w hw
      · rw [L2.valV_neg z2]
        exact i2 hw
theorem putI_ok {m : Mp} (k : Int) {w : W} {v : V} (rv : VR G m w v) {kvs : List (DKey × W)} {kv : List (L2.Key × V)} (r : Paired (DPr G m) kvs kv) :
    Paired (DPr G m) (putI k w kvs) (L2.putK kv (Sum.inl k) v) := by
  have z0 : ∀ {kvs : List (DKey × W)} {kv : List (L2.Key × V)}, Paired (DPr G m) kvs kv →
      Paired (DPr G m) (putI0 k w kvs) (kv.map fun e => if e.1 = Sum.inl k then (e.1, v) else e) := by
    intro kvs kv r
    induction r with
    | nil => exact .nil
    | @cons p q kvs kv a t ih =>
      have e := keyQ_ok k p.1
      rw [a.1] at e
      show Paired _ (match keyQ k p.1 with | true => (p.1, w) :: putI0 k w kvs | false => (p.1, p.2) :: putI0 k w kvs) _
      rw [List.map_cons]
      cases z : keyQ k p.1 with
      | true =>
        rw [z] at e
        rw [if_pos (of_decide_eq_true e.symm)]
        exact .cons ⟨a.1, rv⟩ ih
      | false =>
        rw [z] at e
        rw [if_neg (of_decide_eq_false e.symm)]
        exact .cons a ih
  have sn : ∀ {kvs : List (DKey × W)} {kv : List (L2.Key × V)}, Paired (DPr G m) kvs kv →
      Paired (DPr G m) (kvs ++ [(.inl k, w)]) (kv ++ [(Sum.inl k, v)]) := by
    intro kvs kv r
    induction r with
    | nil => exact .cons ⟨rfl, rv⟩ .nil
    | cons a _ ih => exact .cons a ih
  obtain ⟨i1, i2⟩ := atI_ok k r
  unfold putI L2.putK
  rw [L2.valV_any]
  cases e : atI k kvs with
  | some u =>
    obtain ⟨v', e1, _⟩ := i1 u e
    rw [e1]
    exact z0 r
  | none =>
    rw [i2 e]
    exact sn r
theorem isDI_ok {m : Mp} {h : AH} {H : Hp} {w : W} {v : V} (R : Rel G m h H) (r : VR G m w v) (e : isDI h w = true) : ∃ (l : Loc) (a : Addr) (kvs : List (DKey × W)) (kv : List (L2.Key × V)), w = .ref l ∧ v = .ref a ∧ h.get l = some (.dct kvs) ∧ m.as[l]? = some a ∧ H a = some (.dK kv) ∧
    Paired (DPr G m) kvs kv := by
  cases w with
  | ref l =>
    obtain ⟨a, ha, rfl⟩ := r
    unfold isDI at e
    dsimp only at e
    cases e1 : h.get l with
    | none => rw [e1] at e; cases e
    | some c =>
      rw [e1] at e
      cases c with
      | dct kvs =>
        obtain ⟨_, o1, kv, r1, rfl⟩ := R.see ha e1
        exact ⟨l, a, kvs, kv, rfl, rfl, e1, ha, o1, r1⟩
      | _ => cases e
  | _ => cases e
theorem pm_diget {k : Nat} {o e f : Expr} {apos cpos : Pos} {go ge gf : EM} (hr : Room k X.A) (ho : PE X o (tE G Z go)) (he : PE X e (tE G Z ge)) (hf : PE X f (tE G Z gf)) (m : L2.M2 X o "get" apos e f cpos) :
    PE X (.Call (.Attribute o "get" apos) [e, f] [] cpos) (tE G Z (eDIget go ge gf)) :=
  pe_of (L2.pe_dget2 (by have := hr.un; omega) ho he hf m) fun σ H Q h => by
    obtain ⟨m, h, s, R, S, q⟩ := h
    refine ⟨m, h, s, R, S, (Sat.bind (R := VR G) q).imp fun x H1 z => ?_⟩
    obtain ⟨m1, w, h1, l1, R1, ra, q1⟩ := z
    cases ec : isDI h1 w with
    | false =>
      rw [ec] at q1
      exact q1.elim
    | true =>
      rw [ec] at q1
      obtain ⟨l, a, kvs, kv, rfl, rfl, c1, c2, c3, c4⟩ := isDI_ok R1 ra ec
      refine ⟨a, rfl, .inl ⟨kv, .inl c3⟩, m1, h1, s, R1, S.mono l1, (Sat.bind (R := VR G) q1).imp fun y H2 z => ?_⟩
      obtain ⟨m2, w2, h2, l2, R2, rb, q2⟩ := z
      refine ⟨m2, h2, s, R2, S.mono (l1.trans l2), (Sat.bind (R := VR G) q2).imp fun y3 H3 z => ?_⟩
      obtain ⟨m3, w3, h3, l3, R3, rc, q3⟩ := z
      have q3 := q3.ofO (E' := fun _ _ _ => False)
      unfold oDIget at q3
      dsimp only at q3
      cases e1 : h3.get l with
      | none => rw [e1] at q3; exact q3.elim
      | some c =>
        rw [e1] at q3
        cases c with
        | dct kvs3 =>
          cases w2 with
          | int ks =>
            dsimp only at q3
            obtain ⟨_, o1, kv3, r3, rfl⟩ := R3.see ((l2.trans l3).at c2) e1
            obtain rfl : y = V.int ks := rb
            obtain ⟨i1, i2⟩ := atI_ok ks r3
            refine ⟨_, L2.DGet.k (k := .inl ks) o1, ?_⟩
            cases e4 : atI ks kvs3 with
            | some u =>
              rw [e4] at q3
              obtain ⟨v', e5, rv⟩ := i1 u e4
              rw [e5]
              exact q3 m3 H3 v' (.refl m3) R3 rv
            | none =>
              rw [e4] at q3
              rw [i2 e4]
              exact q3 m3 H3 y3 (.refl m3) R3 rc
          | _ => exact q3.elim
        | _ => exact q3.elim
theorem ps_setDI {k : Nat} (hr : Room k X.A) : L2.PSet X (rS G oDIset) := pset_of (L2.set_dict (by have := hr.un; omega)) fun o i v H Q h => by
  obtain ⟨m, h, a, b, c, h', R, ra, rb, rc, e, q⟩ := h
  cases a with
  | ref l =>
    obtain ⟨a, ha, rfl⟩ := ra
    unfold oDIset at e
    dsimp only at e
    cases e1 : h.get l with
    | none => rw [e1] at e; cases e
    | some c1 =>
      rw [e1] at e
      cases c1 with
      | dct kvs =>
        cases b with
        | int ks =>
          dsimp only at e
          cases e3 : Nat.blt kvs.length 1000000 with
          | false => rw [e3] at e; cases e
          | true =>
            rw [e3] at e
            cases e
            obtain ⟨_, o1, kv, r1, rfl⟩ := R.see ha e1
            obtain rfl : i = V.int ks := rb
            have hl : kv.length = kvs.length := (Paired.length r1).symm
            exact ⟨a, _, rfl, L2.DPut.k (k := .inl ks) o1 (by rw [hl]; exact line_lt e3), q m _ (.refl m) (R.put (c' := .dct (putI ks c kvs)) ha e1 rfl ⟨_, putI_ok ks rc r1, rfl⟩)⟩
        | _ => cases e
      | _ => cases e
  | _ => cases e
/-! ### {k: v for ..} -/
theorem dc_read {K : PySem.W.Frag} {gi : IM} {t : Tg} {own : List Nat} {gc : CM} {gk gv : EM} (ho : ∀ i ∈ t.slots, i ∈ own) {σ : St} {H : Hp} {Q : VK} (h : tE G Z (eDc gi t own gc gk gv) σ H Q) : L2.tDc (tI G Z gi) (gT K t) (tC G Z0 gc) (tE G Z0 gk) (tE G Z0 gv) own σ H Q := by
  obtain ⟨m, h, s, R, S, q⟩ := h
  refine ⟨m, h, s, R, S, (Sat.bind (R := JR G) q).imp fun J H1 z => ?_⟩
  obtain ⟨m1, M, h1, l1, R1, jr, q1⟩ := z
  intro D nD
  have S1 := (S.mono l1).wipe own
  refine ⟨fun i f H => ∃ m2 h2, (m1.snoc D).Le m2 ∧ Rel G m2 h2 H ∧ Sat G m2 (fun c d H => Z c d σ H) (VR G) (dcLoop M t own gc gk gv h1.n (swipe s own) f i h2) Q,
    ⟨1000001, m1.snoc D, _, .refl _, R1.new (c := .dct []) nD ⟨[], .nil, rfl⟩, q1.mono (m1.le_snoc D)⟩, ?_⟩
  have hD : (m1.snoc D).as[h1.n]? = some D := by
    show (m1.as ++ [D])[h1.n]? = some D
    rw [← R1.len]
    exact List.getElem?_concat_length
  rintro i f H2 ⟨m2, h2, l2, R2, q2⟩
  cases f with
  | zero => exact q2.elim
  | succ f =>
    unfold dcLoop at q2
    obtain ⟨j1, j2⟩ := jr m2 h2 H2 i ((m1.le_snoc D).trans l2) R2
    cases e : M.next i h2 with
    | no =>
      rw [e] at q2
      exact q2.elim
    | stop =>
      rw [e] at q2
      exact .inl ⟨j1 e, q2 m2 H2 _ (.refl m2) R2 ⟨D, l2.at hD, rfl⟩⟩
    | yld x h3 =>
      rw [e] at q2
      dsimp only at q2
      obtain ⟨jg, jy⟩ := j2 x h3 e
      refine .inr ⟨jg, _, fun H3 z => ⟨f, Nat.lt_succ_self f, z⟩, fun v H3 y => ?_⟩
      obtain ⟨m3, l3, R3, rv⟩ := jy v H3 y
      have le3 := (m1.le_snoc D).trans (l2.trans l3)
      cases e4 : t.put x (swipe s own) h3 with
      | none =>
        rw [e4] at q2
        exact q2.elim
      | some s3 =>
        rw [e4] at q2
        dsimp only at q2
        have q3 := q2.mono l3
        refine gT_read R3 rv e4 (S1.mono le3) fun σ4 S4 hw => ⟨by rw [hw own ho, wipe_wipe], m3, h3, s3, R3, S4, ?_⟩
        cases e5 : gc s3 h3 with
        | no =>
          rw [e5] at q3
          exact q3.elim
        | exc _ _ _ =>
          rw [e5] at q3
          exact q3.elim
        | ok b h5 =>
          rw [e5] at q3
          intro m5 H5 b' l5 R5 eb
          cases eb
          cases b with
          | false => exact ⟨m5, h5, (l2.trans l3).trans l5, R5, q3.mono l5⟩
          | true =>
            dsimp only at q3
            refine ⟨m5, h5, s3, R5, S4.mono l5, ?_⟩
            have q5 := q3.mono l5
            cases e6 : gk s3 h5 with
            | no =>
              rw [e6] at q5
              exact q5.elim
            | exc _ _ _ =>
              rw [e6] at q5
              exact q5.elim
            | ok w h7 =>
              rw [e6] at q5
              intro m7 H7 u l7 R7 ru
              dsimp only at q5
              have q7 := q5.mono l7
              refine ⟨m7, h7, s3, R7, S4.mono (l5.trans l7), ?_⟩
              cases e8 : gv s3 h7 with
              | no =>
                rw [e8] at q7
                exact q7.elim
              | exc _ _ _ =>
                rw [e8] at q7
                exact q7.elim
              | ok w9 h9 =>
                rw [e8] at q7
                intro m9 H9 u9 l9 R9 ru9
                have d9 := (l2.trans l3).trans ((l5.trans l7).trans l9)
                dsimp only at q7
                cases w with
                | int ks =>
                  dsimp only at q7
                  obtain rfl : u = V.int ks := ru
                  cases ea : h9.get h1.n with
                  | none =>
                    rw [ea] at q7
                    exact q7.elim
                  | some cc =>
                    rw [ea] at q7
                    cases cc with
                    | dct acc =>
                      dsimp only at q7
                      obtain ⟨o, eo, cr⟩ := R9.see (d9.at hD) ea
                      obtain ⟨kv, rs, rfl⟩ := cr
                      cases eb : Nat.blt acc.length 1000000 with
                      | false =>
                        rw [eb] at q7
                        exact q7.elim
                      | true =>
                        rw [eb] at q7
                        have hl : kv.length = acc.length := (Paired.length rs).symm
                        exact ⟨kv, .inl ks, rfl, eo, by rw [hl]; exact line_lt eb, m9, _, d9, R9.put (c' := .dct (putI ks w9 acc)) (d9.at hD) ea rfl ⟨_, putI_ok ks ru9 rs, rfl⟩, q7.mono l9⟩
                    | _ => exact q7.elim
                | _ => exact q7.elim
theorem pm_dc {kx vx tg iter : Expr} {ifs : List Expr} {scope : Scope} (own : List (Str × Nat)) {gi : IM} {t : Tg} {gc : CM} {gk gv : EM} (hc : X.calm = true) (hN : X.N.Nodup) (hi : PI X tg iter (tI G Z gi)) (ok : L2.BlkOk X.N X.env.scope scope own)
    (hg : Blk X scope fun Y => PG Y tg (gT Y.K t)) (ht : Blk X scope fun Y => L2.PTs Y ifs (tC G Z0 gc)) (hk : Blk X scope fun Y => PE Y kx (tE G Z0 gk)) (he : Blk X scope fun Y => PE Y vx (tE G Z0 gv))
    (ho : ∀ i ∈ t.slots, i ∈ own.map (·.2) := by decide) (hs : ∀ x, foldedSetIterable iter X.env x = pure x := by intro _; rfl) :
    PE X (.DictComp kx vx [⟨tg, iter, ifs, 0⟩] scope pos) (tE G Z (eDc gi t (own.map (·.2)) gc gk gv)) := pe_of (L2.pe_dc hc hN hi ok hg ht hk he hs) fun _ _ _ h => dc_read ho h
end
end Pm
/-! PmKeyC: sorted(xs, key=lambda x: 0 - d[x]) of ints, d a captured local dict. -/
namespace Pm
open PySem PySem.Spec PyProof.Rows
open PySem.W (EachIs AllAlike Sortable SortsAt sortVals keyToks keyToksAll alike alikeAll dataLe KeyedOut keyedOut_each TotalLe sortLe dataKind kla_obj kla_fn each_snoc)
open L2 (V Hp HO Cx Inv PE PT PA PS PSs PW PI PG PK TE TT TA TS TG TI St VK XK WX Ends EP RelV Vals upd upd_same upd_ne Takes R2 OpR CallR MtR tOp tVar Vis Gl Room Binds cloFrom)
open LamX (CodeO Tabs TabS TabB ExtN)
structure KeyLC (params : Arguments) (bd : Expr) (scope : Scope) (x d : Str) : Prop where
  body : ∃ j p1 p2 p3 p4 p5, bd = .BinOp (.Constant (.int 0) j p1) .Sub (.Subscript (.Name d p2) (.Name x p3) p4) p5
  kind : scope.kind = .function
  co : scope.isCoroutine = false
  gen : scope.isGenerator = false
  nocell : ∀ y ∈ scope.names, y.2 ≠ .cell
  loc : scope.names.lookup x = some .local
  fre : scope.names.lookup d = some .free
  bind : ∀ (q : Str) (cl : List (Str × Addr)) (pm cdv ctv : Value) (u : Value), bindArgs (kla_fn "<lambda>" q params bd scope cl pm cdv ctv) ⟨[u], []⟩ = pure [(x, u)]
  hd : (x == ("__debug__" : Str)) = false
  hdd : (d == ("__debug__" : Str)) = false
  hcd : (d == ("__classdict__" : Str)) = false
section
variable {prog : Program} {w : World} {A : Around} {s : Shared}
theorem key_callC {f c cw D : Addr} {q x d : Str} {params : Arguments} {body : Expr} {scope : Scope} {pm ctv : Value} {cl : List (Str × Addr)} {vs : List (L2.Key × Value)} {a n : Int} {t t2 : Tok} (L : KeyLC params body scope x d) (hd : A.depth < recursionLimit) (lim : s.heap.NoLimit)
    (ho : s.heap.get? f = some (kla_obj "<lambda>" q params body scope cl pm c ctv)) (hc : s.heap.CodeRec (.ref c) q) (hcl : cl.lookup d = some cw) (hcell : s.heap.IsCell cw (some (.ref D))) (hm : s.heap.DictOf (L2.mixKind prog w) D vs) (hv : valueAt vs (Sum.inl a) = some (.int n t2)) :
    wpAny (model prog w) A (call (.ref f) [.int a t]) (fun r s' => (∃ t3, r = .int (0 - n) t3) ∧ ∃ g tk, s' = { s with heap := g, toks := tk } ∧ ∀ b o, s.heap.get? b = some o → g.get? b = some o) (fun _ _ => False) s := by
  obtain ⟨j, p1, p2, p3, p4, p5, rfl⟩ := L.body
  refine wpAny_call (codeAny_mono (PySem.W.kla_callFunE (R := fun r s' => ∃ v, r = .ok (.ret v) ∧ (∃ t3, v = .int (0 - n) t3) ∧ ∃ g tk, s' = { s with heap := g, toks := tk } ∧ ∀ b o, s.heap.get? b = some o → g.get? b = some o) hd ho rfl L.co L.gen rfl hc ?_) fun r s' hq => ?_)
  · have hb := L.bind q cl pm (.ref c) ctv (.int a t)
    show wpAny _ _ (bindArgs (kla_fn "<lambda>" q params _ scope cl pm (.ref c) ctv) ⟨[.int a t], []⟩) _ _ _
    rw [hb]
    refine wpAny_pure (wpAny_newFunctionEnv L.nocell (fun y hy => by rw [List.mem_singleton.mp hy]; exact L.loc) (fun h₁ hns hsb => ⟨lim.fresh _ hsb, ?_⟩) L.kind)
    have kp : ∀ b o, s.heap.get? b = some o → h₁.get? b = some o := fun b o e => hsb.extBut b o (Nat.ne_of_lt (Heap.lt_size e)) (Heap.get?_push_of_some _ e)
    refine PySem.W.kla_codeExpr ?_
    refine wpAny_BinOp (wpAny_Constant_int ?_)
    have hcell1 : h₁.IsCell cw (some (.ref D)) := by
      obtain ⟨o, e, r⟩ := hcell
      exact ⟨o, kp _ _ e, r⟩
    have hm1 : h₁.DictOf (L2.mixKind prog w) D vs := hm.keep kp
    refine wpAny_Subscript_Name_late (wpAny_Name (wpAny_loadName_free L.kind L.fre hcl hcell1 ?_ L.hcd) L.hdd)
    refine wpAny_Name (wpAny_loadName_local (v := Value.int a t) (m := fun y => [(x, Value.int a t)].reverse.lookup y) L.kind L.loc hns (by simp) ?_) L.hd
    refine ⟨"dict", _, PySem.F.slot_dict_getitem.lookup, hm1.typeIs, ?_⟩
    refine wpAny_getItem_of (knd := L2.mixKind prog w) (k := Sum.inl a) (L2.kV_is (k := .inl a) (show RelV (.int a) (Value.int a t) from ⟨t, rfl⟩)) hm1.mapOf hv ?_
    refine PyProof.Rows.sub_int ?_
    exact ⟨_, rfl, ⟨_, rfl⟩, _, _, rfl, kp⟩
  · obtain ⟨v, rfl, z⟩ := hq
    exact z
end
structure KCk (G : Gx) (m : Mp) (kv : List (L2.Key × V)) (p : SIt) (v : V) : Prop where
  tk : keyToks (p.1.g G.ρ) = p.2.1.map Sum.inl
  vr : VR G m p.2.2 v
  it : ∃ (a n : Int), v = .int a ∧ p.1 = .int (0 - n) ∧ L2.valV kv (Sum.inl a) = some (.int n)
theorem kItsC_ok {G : Gx} {m : Mp} {kvs : List (DKey × W)} {kv : List (L2.Key × V)} (rk : Paired (DPr G m) kvs kv) : ∀ {ws : List W} {vs : List V} {l : List SIt}, kItsC kvs ws = some l → VRs G m ws vs → Paired (KCk G m kv) l vs
  | [], _, l, e, .nil => by
    cases e
    exact .nil
  | w :: r, _, l, e, .cons q t => by
    unfold kItsC at e
    cases w with
    | int a =>
      dsimp only at e
      cases e1 : atI a kvs with
      | none => rw [e1] at e; cases e
      | some w1 =>
        rw [e1] at e
        cases w1 with
        | int n =>
          dsimp only at e
          cases e3 : kItsC kvs r with
          | none => rw [e3] at e; cases e
          | some l' =>
            rw [e3] at e
            cases e
            obtain ⟨v', e4, rv⟩ := (atI_ok a rk).1 _ e1
            obtain rfl : v' = V.int n := rv
            exact .cons ⟨toks_ok (.int (0 - n)) [0 - n] rfl, q, a, n, q, rfl, e4⟩ (kItsC_ok rk e3 t)
        | _ => cases e
    | _ => cases e
section
variable {X : Cx} {G : Gx} {Z : WX} {pos : Pos} {params : Arguments} {body : Expr} {scope : Scope} {q x d : Str}
def KeyOC (H : Hp) (params : Arguments) (body : Expr) (scope : Scope) (q : Str) (cl : List (Str × Addr)) (f : Addr) : Prop := ∃ c', H f = some (LamO f ⟨"<lambda>", q, params, [], scope, cl, c'⟩ body) ∧ H c' = some (CodeO c' q)
theorem pe_lamC {lpos : Pos} {c P : Addr} (TB : TabB X.base X.mg c P) (hm : (P, q) ∈ G.tt) (hu : ∀ p ∈ G.tt, p.1 = P → p.2 = q) (cap : capB X.env.scope scope = true) (hcode : X.env.code = .ref c := by rfl) (hq : X.env.qual ++ "<lambda>" = q := by rfl) (hdef : defaultsOf params X.env = ([], []) := by rfl) :
    PE X (.Lambda params body scope lpos) (fun σ H Q => Tabs G.tt H ∧ ∀ f H1, ExtN H H1 → Tabs G.tt H1 → KeyOC H1 params body scope q (cloFrom X.env.cells scope.names []) f → Q (.ref f) H1) := by
  subst hq
  refine ⟨fun pins s σ H Q I h => ?_⟩
  obtain ⟨hT, h⟩ := h
  have no : ∀ y ∈ scope.names, y.2 = .free → ∃ c, X.env.cells.lookup y.1 = some c := fun y hy e => I.ok.has _ (cap_free cap y hy e)
  exact lam_made I TB hcode hm hu hT hdef no fun f c' H1 s' I1 ex tT nfr hf hc => ⟨.ref f, H1, I1, rfl, h f H1 ex tT ⟨c', hf, hc⟩⟩
def CallRKs (X : Cx) (f : Value) (ks : List Str) (r : L2.St → List V → List V → Hp → VK → Prop) : Prop :=
  ∀ (pins : List (Addr × Obj)) (s : Shared) (σ : L2.St) (H : Hp) (xs zs : List V) (us ws : List Value) (Q : VK), Inv X pins σ H s → Vals xs us → Vals zs ws → r σ xs zs H Q → wpAny (model X.prog X.w) X.A (call f us (ks.zip ws)) (EP X pins σ Q) X.xe s
theorem pe_callBKs {y : Str} {p pos : Pos} {e : Expr} {es : List Expr} {kws : List Keyword} {t tk : TA} {id : String} {ks : List Str} {r : L2.St → List V → List V → Hp → VK → Prop} (hc : CallRKs X (.builtin id) ks r) (hg : Gl X y) (hm : X.mg y = none) (hv : bootBuiltins y = some (.builtin id)) (ha : PA X (e :: es) t) (hk : PK X kws tk) (hn : y ≠ "__name__" := by decide) (hdb : (y == ("__debug__" : Str)) = false := by decide)
    (he : backTo pos (starEach (e :: es) X.env) = (false, eval e X.env) :: backTo pos (starEach es X.env) := by rfl) (hpl : (backTo pos (starEach (e :: es) X.env)).any (·.1) = false := by rfl)
    (hall : (backToKw pos (keywordEach kws X.env)).all (·.1.isSome) = true := by rfl) (hnone : (backToKw pos (keywordEach kws X.env)).any (·.1.isNone) = false := by rfl) (hks : (backToKw pos (keywordEach kws X.env)).filterMap (·.1) = ks := by rfl) :
    PE X (.Call (.Name y p) (e :: es) kws pos) (fun σ H Q => t σ H fun vs H1 => tk σ H1 fun zs H2 => r σ vs zs H2 Q) := by
  refine ⟨fun pins s σ H Q I h => ?_⟩
  refine wpAny_Call_Name_kw (L2.ld_blt I hg hm hv ?_ hn hdb)
  refine PyProof.Rows.callWith_kw (L2.thn (ha.run pos pins s σ H _ I h) fun us s1 ⟨vs, H1, I1, r1, q1⟩ => L2.thn (hk.run pos pins s1 σ H1 _ I1 q1) fun ws s2 ⟨zs, H2, I2, r2, q2⟩ => ?_) he hpl hall hnone
  rw [hks]
  exact hc pins s2 σ H2 vs zs us ws Q I2 r1 r2 q2
def rKeyC (X : Cx) (G : Gx) (params : Arguments) (body : Expr) (scope : Scope) (q : Str) (i : Nat) : L2.St → List V → List V → Hp → VK → Prop := fun σ vs zs H Q => ∃ m h w v f sl, vs = [v] ∧ zs = [.ref f] ∧ Rel G m h H ∧ SlR G m sl σ ∧ VR G m w v ∧ KeyOC H params body scope q (cloFrom X.env.cells scope.names []) f ∧ Sat G m (fun _ _ _ => False) (VR G) (ofO (oSortC (sget sl i) w h)) Q
theorem cr_sortKeyC {k : Nat} {i : Nat} (KL : KeyLC params body scope x d) (hr : Room k X.A) (hK : X.K = G.K) (hN : X.N[i]? = some d) (hcw : X.env.scope.names.lookup d = some .cell) (cap : capB X.env.scope scope = true) : CallRKs X (.builtin "sorted") [Str.ofString "key"] (rKeyC X G params body scope q i) := fun pins s σ H xs zs us ws Q I rx rz h => by
  obtain ⟨m, h, w, v, f, sl, rfl, rfl, R, S, r, ⟨c', hf, hc⟩, qq⟩ := h
  unfold oSortC at qq
  cases ed : sget sl i with
  | none => rw [ed] at qq; exact qq.elim
  | some dw =>
  rw [ed] at qq
  cases dw with
  | ref D0 =>
   dsimp only at qq
   cases ed2 : h.get D0 with
   | none => rw [ed2] at qq; exact qq.elim
   | some cd =>
   rw [ed2] at qq
   cases cd with
   | dct kvs =>
    dsimp only at qq
    cases e : lst? h w with
    | none => rw [e] at qq; exact qq.elim
    | some ys =>
     rw [e] at qq
     dsimp only at qq
     cases e3 : kItsC kvs ys with
     | none => rw [e3] at qq; exact qq.elim
     | some l =>
      rw [e3] at qq
      dsimp only at qq
      cases e4 : allAlk l && (sortB l && dpB l) with
      | false => rw [e4] at qq; exact qq.elim
      | true =>
        rw [e4] at qq
        obtain ⟨dv, sd, rd⟩ := S.get ed
        obtain ⟨Da, hDa, rfl⟩ := rd
        obtain ⟨_, oD, kv, rkv, rfl⟩ := R.see hDa ed2
        obtain ⟨mm0, hn0, hlk0⟩ := I.loc
        obtain ⟨ud, rud, lookd⟩ := hlk0 i d _ hN sd (.inr (.inl hcw))
        obtain rfl : ud = Value.ref Da := rud
        obtain ⟨cw, hcw1, hcw2⟩ : ∃ c, X.env.cells.lookup d = some c ∧ s.heap.IsCell c (some (.ref Da)) := by
          rcases lookd with ⟨k', _⟩ | ⟨_, z⟩
          · have k' : X.env.scope.names.lookup d = some .local := k'
            rw [hcw] at k'
            cases k'
          · exact z
        have hcl : (cloFrom X.env.cells scope.names []).lookup d = some cw := by
          have hy : (d, NameKind.free) ∈ scope.names := PySem.mem_of_lookup KL.fre
          obtain ⟨c2, h2⟩ := L2.mem_lookup (L2.cloFrom_has (cells := X.env.cells) (acc := []) hy)
          rcases L2.cloFrom_mem (PySem.mem_of_lookup h2) with hm' | ⟨_, h3⟩
          · cases hm'
          · have h3 : c2 = (X.env.cells.lookup d).getD 0 := h3
            rw [hcw1] at h3
            rw [h2, h3]
            rfl
        obtain ⟨zD, hdD, dvs, relD, ddD⟩ := L2.dk_of I.hok oD
        obtain ⟨z1, z⟩ := Bool.and_eq_true_iff.mp e4
        obtain ⟨z2, z3⟩ := Bool.and_eq_true_iff.mp z
        obtain ⟨a, vs, rfl, rv, hq⟩ := lst_ok (X := X) hK R r e
        have pk : Paired (KCk G m kv) l vs := kItsC_ok rkv e3 rv
        obtain ⟨its, rvs, pl, hz⟩ := I.list hq
        rw [L2.Vals.ref1 rx, L2.Vals.ref1 rz]
        have al : AllAlike (l.map fun p => p.1.g G.ρ) := fun d hd d' hd' => by
          obtain ⟨p, hp, rfl⟩ := List.mem_map.mp hd
          obtain ⟨p', hp', rfl⟩ := List.mem_map.mp hd'
          exact alk_ok _ _ (List.all_eq_true.mp (List.all_eq_true.mp z1 p hp) p' hp')
        have so : Sortable (l.map fun p => p.1.g G.ρ) := by
          rcases Bool.or_eq_true_iff.mp z2 with y | y
          · refine .inl fun d hd => ?_
            obtain ⟨p, hp, rfl⟩ := List.mem_map.mp hd
            have z := List.all_eq_true.mp y p hp
            cases ep : p.1 with
            | tup xs =>
              rw [ep] at z
              cases xs with
              | nil => cases z
              | cons x r => exact ⟨x.g G.ρ, SD.gs G.ρ r, by simp only [SD.g, SD.gs]⟩
            | _ => rw [ep] at z; cases z
          · refine .inr fun d hd => ?_
            obtain ⟨p, hp, rfl⟩ := List.mem_map.mp hd
            have z := List.all_eq_true.mp y p hp
            cases ep : p.1 with
            | lst xs => exact ⟨by simp [SD.g], fun ys => by simp [SD.g]⟩
            | int i => exact ⟨by simp [SD.g], fun ys => by simp [SD.g]⟩
            | _ => rw [ep] at z; cases z
        have dp : ∀ d, d ∈ (l.map fun p => p.1.g G.ρ) → d.depth ≤ 60 := fun d hd => by
          obtain ⟨p, hp, rfl⟩ := List.mem_map.mp hd
          unfold dpB at z3
          cases ef : SD.fits (l.map (·.1)) with
          | none => rw [ef] at z3; cases z3
          | some wk =>
            obtain ⟨w1, k1⟩ := wk
            rw [ef] at z3
            exact Nat.le_trans (fits_mem (G := G) ef p.1 (List.mem_map.mpr ⟨p, hp, rfl⟩)) (Nat.le_of_ble_eq_true z3)
        have len : (l.map fun p => p.1.g G.ρ).length = its.length := by rw [List.length_map]; exact (Paired.length pk).trans rvs.length
        have ea : EachIs (fun u (p : SIt) => ∃ v, RelV v u ∧ KCk G m kv p v) its l :=
          paired_each (R := KCk G m kv) (S := RelV) (fun p v u a b => ⟨v, b, a⟩) pk rvs
        have at_ : ∀ {us : List Value} {l : List SIt}, EachIs (fun u (p : SIt) => ∃ v, RelV v u ∧ KCk G m kv p v) us l → ∀ (i : Nat) (u : Value) (d : PyData), us[i]? = some u → (l.map fun p => p.1.g G.ρ)[i]? = some d → ∃ p v, d = p.1.g G.ρ ∧ RelV v u ∧ KCk G m kv p v := by
          intro us l z
          induction z with
          | nil => intro i u d h1 h2; simp at h1
          | @cons u0 p0 us0 l0 z0 z1 ih =>
            intro i u d h1 h2
            cases i with
            | zero =>
              have e1 : u0 = u := by simpa using h1
              have e2 : p0.1.g G.ρ = d := by simpa using h2
              subst e1
              obtain ⟨v0, a1, a2⟩ := z0
              exact ⟨p0, v0, e2.symm, a1, a2⟩
            | succ i => exact ih i u d (by simpa using h1) (by simpa using h2)
        obtain ⟨mm, hn, hlk⟩ := I.loc
        have F : Fr X.base X.env.locals s.heap mm := ⟨hn, I.bk, Nat.le_trans I.ok.bsz I.ok.above⟩
        obtain ⟨pm, ctv, ho⟩ := lamO_at I.hok hf
        obtain ⟨c0, oc, ovs, ot, k0, k1, k2, k3⟩ := NdefX.codeO_at I.hok hc
        refine sort_key F pl.isList (by rw [← rvs.length]; exact hz) len al so (fun d hd => ?_) (fun i u d hu hd g tk old => ?_) fun g tk c out p hp kp F3 hgp ko => ?_
        · have h1 := dp d hd
          have h2 := hr.un
          omega
        · obtain ⟨p, v, rfl, ruv, KO⟩ := at_ ea i u d hu hd
          obtain ⟨ka, kn, rfl, ep, hval⟩ := KO.it
          obtain ⟨ut, rfl⟩ : ∃ t, u = Value.int ka t := ruv
          obtain ⟨w', hw, rw'⟩ := L2.RelO.some_of (v := V.int kn) (o := valueAt dvs (Sum.inl ka)) (by rw [← hval]; exact relD.val _)
          obtain ⟨t2, rfl⟩ : ∃ t, w' = Value.int kn t := rw'
          have hcell : g.IsCell cw (some (.ref Da)) := by
            obtain ⟨o, e, r⟩ := hcw2
            exact ⟨o, old _ _ e, r⟩
          refine wpAny_mono (key_callC (s := { s with heap := g, toks := tk }) KL (by have := hr.dp; show X.A.depth < recursionLimit; omega) (I.nolimit.keeps old) (old _ _ ho) ⟨c0, oc, ovs, ot, k0, old _ _ k1, k2, k3⟩ hcl hcell (ddD.keep old) hw) (fun r s' hq => ?_) fun _ _ z => z
          obtain ⟨⟨t3, rfl⟩, g', tk', rfl, kp⟩ := hq
          refine ⟨?_, g', tk', rfl, kp⟩
          rw [ep]
          exact L2.Dp.reads I _ _ _ (L2.Dp.int (0 - kn)) (show RelV (.int (0 - kn)) (Value.int (0 - kn) t3) from ⟨t3, rfl⟩)
        · have eo := keyedOut_each (fun p : SIt => p.1.g G.ρ) ko ea
          have tk0 : ∀ p ∈ l, keyToks (p.1.g G.ρ) = p.2.1.map Sum.inl := by
            have all : ∀ {us : List Value} {l : List SIt}, EachIs (fun u (p : SIt) => ∃ v, RelV v u ∧ KCk G m kv p v) us l → ∀ p ∈ l, keyToks (p.1.g G.ρ) = p.2.1.map Sum.inl := by
              intro us l z
              induction z with
              | nil => intro p hp; exact absurd hp List.not_mem_nil
              | cons a _ ih =>
                intro p hp
                rcases List.mem_cons.mp hp with rfl | hp
                · obtain ⟨_, _, a⟩ := a
                  exact a.tk
                · exact ih p hp
            exact all ea
          have ms : l.mergeSort (dataLe false fun p : SIt => p.1.g G.ρ) = isG leI l := ms_isG (PySem.W.sortLe_total _ _ _) l fun a ha b hb => by
            show (!PyProof.Rows.lexLt itemOrd (keyToks (b.1.g G.ρ)) (keyToks (a.1.g G.ρ))) = leI a b
            rw [tk0 a ha, tk0 b hb, lexI_ok]
            rfl
          rw [ms] at eo
          obtain ⟨us', u1, u2⟩ := split_paired (G := G) (m := m) (each_paired (eo.mono fun u p z => let ⟨v, z1, z2⟩ := z; ⟨v, z1, z2.vr⟩))
          have hnp : H p = none := I.hok.fresh hp
          have hlen : us'.length ≤ sizeLine := by
            rw [u1.length, ko.length len, ← rvs.length]
            exact hz
          have np : ∀ b o, s.heap.get? b = some o → b ≠ p := fun b o e => Nat.ne_of_lt (Nat.lt_of_lt_of_le (Heap.lt_size e) hp)
          have tr : ∀ b u, H b = some u → b ≠ p := fun b u e => L2.ne_of_none e hnp
          have J : Inv X pins σ (upd H p (.lst us')) { s with heap := g, toks := tk } := by
            refine I.step (g' := s.gens) (d' := s.drawn) (ch := []) (fun b hb => absurd hb (by simp)) (fun b o h1 _ _ e n => kp b o h1 e) (fun b o h1 _ _ e n => ⟨o.slots, kp b o h1 e⟩) (fun b o _ e n => by rw [upd_ne (np b o e)]; exact n) (fun b o _ e => ?_) (fun b xs e => by rw [upd_ne (tr b _ e)]; exact e) (fun b o u e => by rw [upd_ne (tr b _ e)]; exact e) (fun b qs e => ⟨#[], by rw [upd_ne (tr b _ e), e]; simp⟩) (fun m' hm => ?_) (fun b u e => ?_) I.bare
            · by_cases hb : b = X.env.locals
              · obtain ⟨oL, _, _, eL, _⟩ := F3.ns
                exact ⟨oL, by rw [hb]; exact eL⟩
              · exact ⟨o, kp b o hb e⟩
            · rw [ns_uniq hm F.ns]
              exact F3.ns
            · by_cases hb : b = p
              · subst hb
                rw [upd_same] at e
                cases e
                exact ⟨hlen, out, c, u1, hgp⟩
              · rw [upd_ne hb] at e
                refine (I.hok b u e).stay (fun d v hd q => kp d v ?_ q) (fun d q => by rw [upd_ne (tr d _ q)]; exact q) fun d xs q => by rw [upd_ne (tr d _ q)]; exact q
                rcases hd with rfl | hd
                · exact L2.ne_of_none e I.free
                · exact L2.ne_of_none hd I.free
          exact ⟨.ref p, _, J, rfl, new_sat (c := .lst ((isG leI l).map fun p => p.2.2)) R hnp ⟨us', u2.mono (m.le_snoc _), rfl⟩ qq⟩
   | _ => exact qq.elim
  | _ => exact qq.elim
theorem pm_sortKeyC {k : Nat} {i : Nat} {e : Expr} {ge : EM} {c P : Addr} {p lpos kpos : Pos} (KL : KeyLC params body scope x d) (hr : Room k X.A) (hK : X.K = G.K) (TB : TabB X.base X.mg c P) (hm : (P, q) ∈ G.tt) (hu : ∀ p ∈ G.tt, p.1 = P → p.2 = q) (hg : Gl X "sorted") (hmg : X.mg "sorted" = none) (ha : PE X e (tE G Z ge))
    (hN : X.N[i]? = some d := by rfl) (hcw : X.env.scope.names.lookup d = some .cell := by rfl) (cap : capB X.env.scope scope = true := by decide)
    (hcode : X.env.code = .ref c := by rfl) (hq : X.env.qual ++ "<lambda>" = q := by rfl) (hdef : defaultsOf params X.env = ([], []) := by rfl) (h1 : starEach (e :: []) X.env = (false, eval e X.env) :: starEach [] X.env := by rfl)
    (he : backTo pos (starEach (e :: []) X.env) = (false, eval e X.env) :: backTo pos (starEach [] X.env) := by rfl) (hpl : (backTo pos (starEach (e :: []) X.env)).any (·.1) = false := by rfl)
    (hall : (backToKw pos (keywordEach [⟨some (Str.ofString "key"), .Lambda params body scope lpos, kpos⟩] X.env)).all (·.1.isSome) = true := by rfl) (hnone : (backToKw pos (keywordEach [⟨some (Str.ofString "key"), .Lambda params body scope lpos, kpos⟩] X.env)).any (·.1.isNone) = false := by rfl) (hks : (backToKw pos (keywordEach [⟨some (Str.ofString "key"), .Lambda params body scope lpos, kpos⟩] X.env)).filterMap (·.1) = [Str.ofString "key"] := by rfl) :
    PE X (.Call (.Name "sorted" p) [e] [⟨some (Str.ofString "key"), .Lambda params body scope lpos, kpos⟩] pos) (tE G Z (eSortC i ge)) :=
  pe_of (pe_callBKs (cr_sortKeyC (G := G) (q := q) (i := i) KL hr hK hN hcw cap) hg hmg bt_sorted (L2.pa_cons ha L2.pa_nil h1) (L2.pk_cons (pe_lamC (G := G) (body := body) TB hm hu cap hcode hq hdef) L2.pk_nil) (he := he) (hpl := hpl) (hall := hall) (hnone := hnone) (hks := hks)) fun σ H Q h => by
    obtain ⟨m, h, s, R, S, sq⟩ := h
    refine ⟨m, h, s, R, S, (Sat.bind (R := VR G) sq).imp fun y H1 z => ?_⟩
    obtain ⟨m1, w, h1, l1, R1, ra, q1⟩ := z
    exact ⟨R1.tab, fun f H2 ex tT ko => ⟨m1, h1, w, y, f, s, rfl, rfl, R1.grow ex tT, S.mono l1, ra, ko, q1.ofO⟩⟩
end
end Pm
/-! PmSub2: a[i], b[j] = a pair. -/
namespace Pm
open PySem PySem.Spec PyProof.Rows
open L2 (V Hp HO Cx Inv PE PT PA PS PSs PW PI PG TE TT TA TS TG TI VK XK WX Ends RelV Vals upd upd_same upd_ne Takes R2 OpR CallR MtR tOp tVar Vis Gl Room Binds)
section
variable {X : Cx} {G : Gx} {Z : WX} {pos : Pos}
theorem pms_sub2 {o1 i1 o2 i2 e : Expr} {f : W → W → W → AH → Option AH} {go1 gi1 go2 gi2 ge : EM} {p2 p3 p4 : Pos} {kt : Nat} (hc : X.calm = true) (hf : L2.PSet X (rS G f)) (he : PE X e (tE G Z ge)) (ho1 : PE X o1 (tE G Z go1)) (hi1 : PE X i1 (tE G Z gi1)) (ho2 : PE X o2 (tE G Z go2)) (hi2 : PE X i2 (tE G Z gi2))
    (ha1 : ∀ v, assign (.Subscript o1 i1 p2) X.env v = (do
      let ov ← holding [v] (eval o1 X.env)
      let iv ← holding [v, ov] (eval i1 X.env)
      standAt p2
      holding [v, ov, iv] (setItem ov iv v)
      release [v, ov, iv] []) := by intro _; rfl)
    (ha2 : ∀ v, assign (.Subscript o2 i2 p3) X.env v = (do
      let ov ← holding [v] (eval o2 X.env)
      let iv ← holding [v, ov] (eval i2 X.env)
      standAt p3
      holding [v, ov, iv] (setItem ov iv v)
      release [v, ov, iv] []) := by intro _; rfl)
    (hs : swapsWithSole [.Tuple [.Subscript o1 i1 p2, .Subscript o2 i2 p3] kt p4] e pos.line X.env = pure false := by rfl) (hw : swappedStores [.Tuple [.Subscript o1 i1 p2, .Subscript o2 i2 p3] kt p4] e X.env = pure none := by rfl)
    (h1 : (assignEach [.Tuple [.Subscript o1 i1 p2, .Subscript o2 i2 p3] kt p4] X.env).map (·.2) = [assign (.Tuple [.Subscript o1 i1 p2, .Subscript o2 i2 p3] kt p4) X.env] := by rfl)
    (g1 : (assignEach [.Subscript o1 i1 p2, .Subscript o2 i2 p3] X.env).map (·.2) = assign (.Subscript o1 i1 p2) X.env :: (assignEach [.Subscript o2 i2 p3] X.env).map (·.2) := by rfl)
    (g2 : (assignEach [.Subscript o2 i2 p3] X.env).map (·.2) = assign (.Subscript o2 i2 p3) X.env :: (assignEach [] X.env).map (·.2) := by rfl)
    (hn : (assignEach [.Subscript o1 i1 p2, .Subscript o2 i2 p3] X.env).length = 2 := by rfl) (hst : (assignEach [.Subscript o1 i1 p2, .Subscript o2 i2 p3] X.env).findIdx? (·.1) = none := by rfl) :
    PS X (.Assign [.Tuple [.Subscript o1 i1 p2, .Subscript o2 i2 p3] kt p4] e pos) (tS G Z (sSub2 f ge go1 gi1 go2 gi2)) :=
  ps_of (L2.ps_asg he (L2.pg_tup hc (L2.pgs_cons (L2.pg_sub ho1 hi1 hf ha1) (L2.pgs_cons (L2.pg_sub ho2 hi2 hf ha2) L2.pgs_nil g2) g1) hn hst) hs hw h1) fun D σ H h =>
  sr_read h fun w v H1 m1 h1 s r R1 S1 q => by
    cases w with
    | ref l =>
      cases e0 : h1.get l with
      | none => unfold tup2? at q; dsimp only at q; rw [e0] at q; exact q.elim
      | some c =>
        unfold tup2? at q
        dsimp only at q
        rw [e0] at q
        match c, e0, q with
        | .tup [x1, x2], e0, q =>
          obtain ⟨a0, ha0, rfl⟩ := r
          obtain ⟨_, o1, vs, rvs, rfl⟩ := R1.see ha0 e0
          cases rvs with
          | @cons _ v1 _ _ rx1 rt =>
            cases rt with
            | @cons _ v2 _ _ rx2 rn =>
              cases rn
              refine ⟨a0, [v1, v2], rfl, .inl (.inl o1), rfl, v1, [v2], rfl, m1, h1, s, R1, S1, (Sat.toSR (R := VR G) S1 q).imp fun x H2 z => ?_⟩
              obtain ⟨m2, a, h2, l2, R2, ra, q2⟩ := z
              refine ⟨m2, h2, s, R2, S1.mono l2, (Sat.toSR (R := VR G) (S1.mono l2) q2).imp fun y H3 z => ?_⟩
              obtain ⟨m3, b, h3, l3, R3, rb, q3⟩ := z
              cases e4 : f a b x1 h3 with
              | none =>
                rw [e4] at q3
                exact q3.elim
              | some h4 =>
                rw [e4] at q3
                refine ⟨m3, h3, a, b, x1, h4, R3, ra.mono l3, rb, rx1.mono (l2.trans l3), e4, fun m4 H4 l4 R4 => ?_⟩
                have S4 := S1.mono ((l2.trans l3).trans l4)
                have q4 := q3.mono l4
                refine ⟨v2, [], rfl, m4, h4, s, R4, S4, (Sat.toSR (R := VR G) S4 q4).imp fun x5 H5 z => ?_⟩
                obtain ⟨m5, c5, h5, l5, R5, rc5, q5⟩ := z
                refine ⟨m5, h5, s, R5, S4.mono l5, (Sat.toSR (R := VR G) (S4.mono l5) q5).imp fun y6 H6 z => ?_⟩
                obtain ⟨m6, d6, h6, l6, R6, rd6, q6⟩ := z
                cases e7 : f c5 d6 x2 h6 with
                | none =>
                  rw [e7] at q6
                  exact q6.elim
                | some h7 =>
                  rw [e7] at q6
                  exact ⟨m6, h6, c5, d6, x2, h7, R6, rc5.mono l6, rd6, rx2.mono (((l2.trans l3).trans l4).trans (l5.trans l6)), e7, fun m' H' x R' => ⟨rfl, q6 m' σ H' x R' (S4.mono ((l5.trans l6).trans x))⟩⟩
        | .tup [], e0, q => exact q.elim
        | .tup [_], e0, q => exact q.elim
        | .tup (_ :: _ :: _ :: _), e0, q => exact q.elim
        | .lst _, e0, q => exact q.elim
        | .dct _, e0, q => exact q.elim
        | .set _, e0, q => exact q.elim
        | .xd _, e0, q => exact q.elim
        | .exc _ _, e0, q => exact q.elim
        | .exn _, e0, q => exact q.elim
        | .lam _ _, e0, q => exact q.elim
        | .dtp _, e0, q => exact q.elim
        | .ali _, e0, q => exact q.elim
    | _ => exact q.elim
/-! ### min of a list of one tuple -/
theorem cr_minT {k : Nat} (hc : X.calm = true) (hr : Room k X.A) (hK : X.K = G.K := by rfl) : CallR X (.builtin "min") (rN G oMinT) := fun pins s σ H xs us Q I rx h => by
  obtain ⟨m, h, as, R, rs, q⟩ := h
  unfold oMinT at q
  cases e0 : oMinL as h with
  | some r =>
    rw [e0] at q
    exact cr_minL hc hK pins s σ H xs us Q I rx ⟨m, h, as, R, rs, by rw [e0]; exact q⟩
  | none =>
    rw [e0] at q
    cases rs with
    | nil => exact q.elim
    | cons r t =>
      cases t with
      | cons _ _ => exact q.elim
      | nil =>
        rename_i w v
        dsimp only at q
        cases e : lst? h w with
        | none => rw [e] at q; exact q.elim
        | some ys =>
          rw [e] at q
          match ys, e, q with
          | [], e, q => exact q.elim
          | _ :: _ :: _, e, q => exact q.elim
          | [w1], e, q =>
            dsimp only at q
            cases e3 : rd 60 h w1 with
            | none => rw [e3] at q; exact q.elim
            | some d =>
              rw [e3] at q
              cases d with
              | tup ds =>
                dsimp only at q
                cases e4 : SD.alk (.tup ds) (.tup ds) && dpB [(.tup ds, [], w1)] with
                | false => rw [e4] at q; exact q.elim
                | true =>
                  rw [e4] at q
                  obtain ⟨z1, z3⟩ := Bool.and_eq_true_iff.mp e4
                  obtain ⟨a, vs, rfl, rv, hq⟩ := lst_ok (X := X) hK R r e
                  obtain ⟨its, rvs, pl, hz⟩ := I.list hq
                  rw [L2.Vals.ref1 rx]
                  cases rv with
                  | cons r1 rn =>
                    cases rn
                    cases rvs with
                    | cons u1 un =>
                      cases un
                      rename_i v1 u1v
                      obtain ⟨as', rd1⟩ := L2.Dp.reads I _ _ _ (rd_ok (K := X.K) R _ _ _ _ e3 r1) u1
                      have dp : ((SD.tup ds).g G.ρ).depth ≤ 60 := by
                        unfold dpB at z3
                        cases ef : SD.fits ([((SD.tup ds), ([] : List Int), w1)].map (·.1)) with
                        | none => rw [ef] at z3; cases z3
                        | some wk =>
                          obtain ⟨w2, k1⟩ := wk
                          rw [ef] at z3
                          exact Nat.le_trans (fits_mem (G := G) ef _ (List.mem_singleton.mpr rfl)) (Nat.le_of_ble_eq_true z3)
                      refine PySem.W.min_list_data (I.ok.hd hc) pl.isList (.cons rd1 .nil) ⟨fun x hx y hy => ?_, fun x hx => ?_⟩ ?_ fun i v h' tk bs hi hrd hk => ?_
                      · rw [List.mem_singleton.mp hx, List.mem_singleton.mp hy]
                        exact alk_ok _ _ z1
                      · rw [List.mem_singleton.mp hx]
                        simp [SD.g]
                      · have e5 : PyData.depthAll [(SD.tup ds).g G.ρ] ≤ 60 := by
                          unfold PyData.depthAll
                          unfold PyData.depthAll
                          omega
                        have := hr.un
                        omega
                      · have ev : v = u1v := by
                          cases i with
                          | zero => exact (Option.some.inj (show some u1v = some v from hi)).symm
                          | succ j => simp at hi
                        subst ev
                        exact ⟨v1, H, I.kept (t' := tk) hk, u1, q m H v1 (.refl m) R r1⟩
              | _ => exact q.elim
end
end Pm
namespace Pm
open PySem PySem.Spec
open L2 (V Hp HO Cx Inv PE PT PA PS PSs XK WX Room Binds defScope defBody defArgs)
def topS (i : Nat) : Stmt := PySem.Challenge.pw_twinties_k61_leagues_refused.main.body.getD i (.Pass ⟨0, 0, 0, 0⟩)
theorem takes0 {X : Cx} : L2.Takes X Z0 := L2.takes0
abbrev st_is_whole : Stmt := topS 9
theorem sc_is_whole : L2.FnScope ["value"] ["value"] (defScope st_is_whole) := ⟨rfl, rfl, rfl, by decide +kernel, rfl, by decide +kernel, by decide +kernel⟩
abbrev st_is_between : Stmt := topS 10
theorem sc_is_between : L2.FnScope ["value", "low", "high"] ["value", "low", "high"] (defScope st_is_between) := ⟨rfl, rfl, rfl, by decide +kernel, rfl, by decide +kernel, by decide +kernel⟩
abbrev st_are_ties : Stmt := topS 12
theorem sc_are_ties : L2.FnScope ["kinds", "size", "value", "item"] ["kinds", "size", "value"] (defScope st_are_ties) := ⟨rfl, rfl, rfl, by decide +kernel, rfl, by decide +kernel, by decide +kernel⟩
abbrev st_is_company_value : Stmt := topS 13
theorem sc_is_company_value : L2.FnScope ["kinds", "value", "person", "row"] ["kinds", "value"] (defScope st_is_company_value) := ⟨rfl, rfl, rfl, by decide +kernel, rfl, by decide +kernel, by decide +kernel⟩
abbrev st_is_league_value : Stmt := topS 25
theorem sc_is_league_value : L2.FnScope ["value"] ["value"] (defScope st_is_league_value) := ⟨rfl, rfl, rfl, by decide +kernel, rfl, by decide +kernel, by decide +kernel⟩
abbrev st_check_league : Stmt := topS 26
theorem sc_check_league : L2.FnScope ["league"] ["league"] (defScope st_check_league) := ⟨rfl, rfl, rfl, by decide +kernel, rfl, by decide +kernel, by decide +kernel⟩
abbrev st_won : Stmt := topS 27
theorem sc_won : L2.FnScope ["league", "one", "other"] ["league", "one", "other"] (defScope st_won) := ⟨rfl, rfl, rfl, by decide +kernel, rfl, by decide +kernel, by decide +kernel⟩
abbrev st_are_alike : Stmt := topS 28
theorem sc_are_alike : L2.FnScope ["league", "one", "other", "others", "person"] ["league", "one", "other"] (defScope st_are_alike) := ⟨rfl, rfl, rfl, by decide +kernel, rfl, by decide +kernel, by decide +kernel⟩
abbrev st_alike_in : Stmt := topS 29
theorem sc_alike_in : L2.FnScope ["league", "found", "one", "other"] ["league"] (defScope st_alike_in) := ⟨rfl, rfl, rfl, by decide +kernel, rfl, by decide +kernel, by decide +kernel⟩
abbrev st_runs_of : Stmt := topS 30
theorem sc_runs_of : L2.FnScope ["league", "lots", "person", "one", "other", "tied", "lot", "found", "wins", "mate"] ["league"] (defScope st_runs_of) := ⟨rfl, rfl, rfl, by decide +kernel, rfl, by decide +kernel, by decide +kernel⟩
abbrev st_runs : Stmt := topS 31
theorem sc_runs : L2.FnScope ["league"] ["league"] (defScope st_runs) := ⟨rfl, rfl, rfl, by decide +kernel, rfl, by decide +kernel, by decide +kernel⟩
abbrev st_factorial_of : Stmt := topS 32
theorem sc_factorial_of : L2.FnScope ["number", "found", "at"] ["number"] (defScope st_factorial_of) := ⟨rfl, rfl, rfl, by decide +kernel, rfl, by decide +kernel, by decide +kernel⟩
abbrev st_size_of : Stmt := topS 33
theorem sc_size_of : L2.FnScope ["league", "found", "row"] ["league"] (defScope st_size_of) := ⟨rfl, rfl, rfl, by decide +kernel, rfl, by decide +kernel, by decide +kernel⟩
abbrev st_league_class_size : Stmt := topS 34
theorem sc_league_class_size : L2.FnScope ["league"] ["league"] (defScope st_league_class_size) := ⟨rfl, rfl, rfl, by decide +kernel, rfl, by decide +kernel, by decide +kernel⟩
abbrev st_product_of : Stmt := topS 23
theorem sc_product_of : L2.FnScope ["one", "other", "found", "at", "left", "place", "right"] ["one", "other"] (defScope st_product_of) := ⟨rfl, rfl, rfl, by decide +kernel, rfl, by decide +kernel, by decide +kernel⟩
abbrev st_leagues_by_turns : Stmt := topS 35
theorem sc_leagues_by_turns : L2.FnScope ["league", "found", "row", "people"] ["league"] (defScope st_leagues_by_turns) := ⟨rfl, rfl, rfl, by decide +kernel, rfl, by decide +kernel, by decide +kernel⟩
abbrev st_steps_of : Stmt := topS 40
theorem sc_steps_of : L2.FnScope ["league", "found", "row", "person", "mate"] ["league"] (defScope st_steps_of) := ⟨rfl, rfl, rfl, by decide +kernel, rfl, by decide +kernel, by decide +kernel⟩
abbrev st_laid_rows : Stmt := topS 39
theorem sc_laid_rows : L2.FnScope ["row", "person", "found", "place", "results", "at", "mate"] ["row", "person"] (defScope st_laid_rows) := ⟨rfl, rfl, rfl, by decide +kernel, rfl, by decide +kernel, by decide +kernel⟩
abbrev st_league_number : Stmt := topS 42
theorem sc_league_number : L2.FnScope ["league", "found", "rows", "person", "mates", "row", "place", "mate", "_", "told"] ["league"] (defScope st_league_number) := ⟨rfl, rfl, rfl, by decide +kernel, rfl, by decide +kernel, by decide +kernel⟩
abbrev st_check_two : Stmt := topS 44
theorem sc_check_two : L2.FnScope ["one", "other"] ["one", "other"] (defScope st_check_two) := ⟨rfl, rfl, rfl, by decide +kernel, rfl, by decide +kernel, by decide +kernel⟩
abbrev st_couples_of : Stmt := topS 19
theorem sc_couples_of : L2.FnScope ["company", "found", "one", "other"] ["company"] (defScope st_couples_of) := ⟨rfl, rfl, rfl, by decide +kernel, rfl, by decide +kernel, by decide +kernel⟩
abbrev st_unlike_results : Stmt := topS 50
theorem sc_unlike_results : L2.FnScope ["one", "other", "couple"] ["one", "other"] (defScope st_unlike_results) := ⟨rfl, rfl, rfl, by decide +kernel, rfl, by decide +kernel, by decide +kernel⟩
abbrev st_are_joined_of : Stmt := topS 51
theorem sc_are_joined_of : L2.FnScope ["one", "other", "lots", "row", "first", "second", "lot"] ["one", "other"] (defScope st_are_joined_of) := ⟨rfl, rfl, rfl, by decide +kernel, rfl, by decide +kernel, by decide +kernel⟩
abbrev st_are_joined_leagues : Stmt := topS 52
theorem sc_are_joined_leagues : L2.FnScope ["one", "other"] ["one", "other"] (defScope st_are_joined_leagues) := ⟨rfl, rfl, rfl, by decide +kernel, rfl, by decide +kernel, by decide +kernel⟩
abbrev st_lots_of : Stmt := topS 53
theorem sc_lots_of : L2.FnScope ["size", "many", "found", "_", "lot", "person"] ["size", "many"] (defScope st_lots_of) := ⟨rfl, rfl, rfl, by decide +kernel, rfl, by decide +kernel, by decide +kernel⟩
abbrev st_tie_of : Stmt := topS 18
theorem sc_tie_of : L2.FnScope ["company", "one", "other"] ["company", "one", "other"] (defScope st_tie_of) := ⟨rfl, rfl, rfl, by decide +kernel, rfl, by decide +kernel, by decide +kernel⟩
abbrev st_among_of : Stmt := topS 21
theorem sc_among_of : L2.FnScope ["company", "people", "mate", "place", "person"] ["company", "people"] (defScope st_among_of) := ⟨rfl, rfl, rfl, by decide +kernel, rfl, by decide +kernel, by decide +kernel⟩
abbrev st_parting_people : Stmt := topS 54
theorem sc_parting_people : L2.FnScope ["one", "other", "known", "many", "lot", "parts"] ["one", "other"] (defScope st_parting_people) := ⟨rfl, rfl, rfl, by decide +kernel, rfl, by decide +kernel, by decide +kernel⟩
abbrev st_league_turns : Stmt := topS 55
theorem sc_league_turns : L2.FnScope ["one", "other"] ["one", "other"] (defScope st_league_turns) := ⟨rfl, rfl, rfl, by decide +kernel, rfl, by decide +kernel, by decide +kernel⟩
abbrev st_league_road : Stmt := topS 56
theorem sc_league_road : L2.FnScope ["one", "other", "rows", "found", "_", "ready", "number", "row", "place", "first", "second"] ["one", "other"] (defScope st_league_road) := ⟨rfl, rfl, rfl, by decide +kernel, rfl, by decide +kernel, by decide +kernel⟩
abbrev st_league_couples : Stmt := topS 47
theorem sc_league_couples : L2.FnScope ["league"] ["league"] (defScope st_league_couples) := ⟨rfl, rfl, rfl, by decide +kernel, rfl, by decide +kernel, by decide +kernel⟩
abbrev st__law_caught : Stmt := topS 59
theorem sc__law_caught : L2.FnScope ["_law_call", "_law_error", "e", "_law_kinds_told", "_law_at", "_law_name", "_law_cell"] ["_law_call"] (defScope st__law_caught) := ⟨rfl, rfl, rfl, by decide +kernel, rfl, by decide +kernel, by decide +kernel⟩
abbrev st__law_all : Stmt := topS 60
theorem sc__law_all : L2.FnScope ["_law_name", "_law_bad", "_law_calls", "_law_due", "_law_call"] ["_law_name", "_law_bad", "_law_calls"] (defScope st__law_all) := ⟨rfl, rfl, rfl, by decide +kernel, rfl, by decide +kernel, by decide +kernel⟩
abbrev st_is_person : Stmt := topS 14
theorem sc_is_person : L2.FnScope ["company", "value"] ["company", "value"] (defScope st_is_person) := ⟨rfl, rfl, rfl, by decide +kernel, rfl, by decide +kernel, by decide +kernel⟩
abbrev st_check_person : Stmt := topS 15
theorem sc_check_person : L2.FnScope ["company", "person"] ["company", "person"] (defScope st_check_person) := ⟨rfl, rfl, rfl, by decide +kernel, rfl, by decide +kernel, by decide +kernel⟩
abbrev st_beats : Stmt := topS 46
theorem sc_beats : L2.FnScope ["league", "person", "loser"] ["league", "person", "loser"] (defScope st_beats) := ⟨rfl, rfl, rfl, by decide +kernel, rfl, by decide +kernel, by decide +kernel⟩
abbrev st_kept_rows : Stmt := topS 20
theorem sc_kept_rows : L2.FnScope ["rows", "row"] ["rows"] (defScope st_kept_rows) := ⟨rfl, rfl, rfl, by decide +kernel, rfl, by decide +kernel, by decide +kernel⟩
abbrev st_turned_of : Stmt := topS 48
theorem sc_turned_of : L2.FnScope ["league", "couple", "found"] ["league", "couple"] (defScope st_turned_of) := ⟨rfl, rfl, rfl, by decide +kernel, rfl, by decide +kernel, by decide +kernel⟩
abbrev st_is_couple : Stmt := topS 16
theorem sc_is_couple : L2.FnScope ["company", "value"] ["company", "value"] (defScope st_is_couple) := ⟨rfl, rfl, rfl, by decide +kernel, rfl, by decide +kernel, by decide +kernel⟩
abbrev st_turned : Stmt := topS 49
theorem sc_turned : L2.FnScope ["league", "couple"] ["league", "couple"] (defScope st_turned) := ⟨rfl, rfl, rfl, by decide +kernel, rfl, by decide +kernel, by decide +kernel⟩
abbrev st_check_couple : Stmt := topS 17
theorem sc_check_couple : L2.FnScope ["company", "couple"] ["company", "couple"] (defScope st_check_couple) := ⟨rfl, rfl, rfl, by decide +kernel, rfl, by decide +kernel, by decide +kernel⟩
abbrev st_is_sure_result : Stmt := topS 36
theorem sc_is_sure_result : L2.FnScope ["league", "couple", "row"] ["league", "couple"] (defScope st_is_sure_result) := ⟨rfl, rfl, rfl, by decide +kernel, rfl, by decide +kernel, by decide +kernel⟩
abbrev st_lots_with : Stmt := topS 37
theorem sc_lots_with : L2.FnScope ["couple", "size", "many", "others", "person", "found", "_", "lot"] ["couple", "size", "many"] (defScope st_lots_with) := ⟨rfl, rfl, rfl, by decide +kernel, rfl, by decide +kernel, by decide +kernel⟩
abbrev st_sure_people : Stmt := topS 38
theorem sc_sure_people : L2.FnScope ["league", "couple", "row", "many", "lot", "one", "other"] ["league", "couple"] (defScope st_sure_people) := ⟨rfl, rfl, rfl, by decide +kernel, rfl, by decide +kernel, by decide +kernel⟩
abbrev st_check_number : Stmt := topS 11
theorem sc_check_number : L2.FnScope ["number", "low", "high"] ["number", "low", "high"] (defScope st_check_number) := ⟨rfl, rfl, rfl, by decide +kernel, rfl, by decide +kernel, by decide +kernel⟩
abbrev st_league_at : Stmt := topS 41
theorem sc_league_at : L2.FnScope ["league", "number", "found", "weight", "rows", "person", "mates", "row", "results", "place", "mate", "result"] ["league", "number"] (defScope st_league_at) := ⟨rfl, rfl, rfl, by decide +kernel, rfl, by decide +kernel, by decide +kernel⟩
abbrev st_is_league_road : Stmt := topS 57
theorem sc_is_league_road : L2.FnScope ["one", "other", "value", "here", "couple"] ["one", "other", "value"] (defScope st_is_league_road) := ⟨rfl, rfl, rfl, by decide +kernel, rfl, by decide +kernel, by decide +kernel⟩
abbrev st_is_league : Stmt := topS 45
theorem sc_is_league : L2.FnScope ["value"] ["value"] (defScope st_is_league) := ⟨rfl, rfl, rfl, by decide +kernel, rfl, by decide +kernel, by decide +kernel⟩
abbrev st__law_leagues_right : Stmt := topS 62
theorem sc__law_leagues_right : L2.FnScope ["_law_below", "_law_far", "_law_odd", "_law_person", "_law_bad", "_law_calls", "_law_call"] ["_law_below", "_law_far"] (defScope st__law_leagues_right) := ⟨rfl, rfl, rfl, by decide +kernel, rfl, by decide +kernel, by decide +kernel⟩
abbrev st__law_itself : Stmt := topS 61
theorem sc__law_itself : L2.FnScope ["_law_call", "_law_caught_here", "_law_bad", "raised"] ["_law_call"] (defScope st__law_itself) := ⟨rfl, rfl, rfl, by decide +kernel, rfl, by decide +kernel, by decide +kernel⟩
abbrev st__law_rest_right : Stmt := topS 63
theorem sc__law_rest_right : L2.FnScope ["_law_below", "_law_far", "_law_row", "_law_ring", "_law_bad", "_law_odd", "_law_call", "_law_calls"] ["_law_below", "_law_far"] (defScope st__law_rest_right) := ⟨rfl, rfl, rfl, by decide +kernel, rfl, by decide +kernel, by decide +kernel⟩
abbrev st__law_named_right : Stmt := topS 64
theorem sc__law_named_right : L2.FnScope ["_law_two", "_law_back", "_law_told"] [] (defScope st__law_named_right) := ⟨rfl, rfl, rfl, by decide +kernel, rfl, by decide +kernel, by decide +kernel⟩
abbrev st_law : Stmt := topS 65
theorem sc_law : L2.FnScope ["_law_script", "_law_cells", "_law_cell", "_law_below", "_law_far"] ["_law_script"] (defScope st_law) := ⟨rfl, rfl, rfl, by decide +kernel, rfl, by decide +kernel, by decide +kernel⟩
def lam0 : LamD := lamD "_law_leagues_right.<locals>.<lambda>" (eX (sX (nS (sB (nS (defBody st__law_leagues_right) 2) 0) 0)) 0)
def lam1 : LamD := lamD "_law_leagues_right.<locals>.<lambda>" (eX (eX (eX (sX (nS (sB (nS (sB (nS (defBody st__law_leagues_right) 2) 0) 1) 0) 0)) 0) 3) 0)
def lam2 : LamD := lamD "_law_leagues_right.<locals>.<lambda>" (eX (sX (nS (sB (nS (defBody st__law_leagues_right) 2) 0) 2)) 1)
def lam3 : LamD := lamD "_law_leagues_right.<locals>.<lambda>" (eX (sX (nS (sB (nS (defBody st__law_leagues_right) 2) 0) 3)) 1)
def lam4 : LamD := lamD "_law_leagues_right.<locals>.<lambda>" (eX (sX (nS (sB (nS (defBody st__law_leagues_right) 2) 0) 4)) 1)
def lam5 : LamD := lamD "_law_leagues_right.<locals>.<lambda>" (eX (sX (nS (sB (nS (defBody st__law_leagues_right) 2) 0) 5)) 1)
def lam6 : LamD := lamD "_law_leagues_right.<locals>.<lambda>" (eX (sX (nS (sB (nS (defBody st__law_leagues_right) 2) 0) 6)) 1)
def lam7 : LamD := lamD "_law_leagues_right.<locals>.<lambda>" (eX (eX (eX (sX (nS (sB (nS (sB (nS (defBody st__law_leagues_right) 2) 0) 7) 0) 0)) 0) 3) 0)
def lam8 : LamD := lamD "_law_leagues_right.<locals>.<lambda>" (eX (eX (eX (sX (nS (sB (nS (sB (nS (defBody st__law_leagues_right) 2) 0) 7) 0) 1)) 0) 3) 0)
def lam9 : LamD := lamD "_law_leagues_right.<locals>.<lambda>" (eX (sX (nS (sB (nS (defBody st__law_leagues_right) 2) 0) 8)) 1)
def lam10 : LamD := lamD "_law_leagues_right.<locals>.<lambda>" (eX (sX (nS (sB (nS (defBody st__law_leagues_right) 2) 0) 9)) 1)
def lam11 : LamD := lamD "_law_rest_right.<locals>.<lambda>" (eX (eX (eX (sX (nS (sB (nS (defBody st__law_rest_right) 1) 0) 0)) 0) 3) 0)
def lam12 : LamD := lamD "_law_rest_right.<locals>.<lambda>" (eX (eX (eX (sX (nS (sB (nS (defBody st__law_rest_right) 1) 0) 1)) 0) 3) 0)
def lam13 : LamD := lamD "_law_rest_right.<locals>.<lambda>" (eX (eX (eX (sX (nS (defBody st__law_rest_right) 2)) 0) 3) 0)
def lam14 : LamD := lamD "_law_rest_right.<locals>.<lambda>" (eX (eX (eX (sX (nS (defBody st__law_rest_right) 3)) 0) 3) 0)
def lam15 : LamD := lamD "_law_rest_right.<locals>.<lambda>" (eX (eX (eX (sX (nS (sB (nS (defBody st__law_rest_right) 5) 0) 0)) 0) 3) 0)
def lam16 : LamD := lamD "_law_rest_right.<locals>.<lambda>" (eX (eX (eX (sX (nS (sB (nS (defBody st__law_rest_right) 5) 0) 1)) 0) 3) 0)
def lam17 : LamD := lamD "_law_rest_right.<locals>.<lambda>" (eX (eX (eX (sX (nS (sB (nS (defBody st__law_rest_right) 5) 0) 2)) 0) 3) 0)
def lam18 : LamD := lamD "_law_rest_right.<locals>.<lambda>" (eX (eX (eX (sX (nS (defBody st__law_rest_right) 6)) 0) 3) 0)
def lam19 : LamD := lamD "_law_rest_right.<locals>.<lambda>" (eX (eX (eX (sX (nS (defBody st__law_rest_right) 7)) 0) 3) 0)
def lam20 : LamD := lamD "_law_rest_right.<locals>.<lambda>" (eX (eX (eX (sX (nS (sB (nS (defBody st__law_rest_right) 8) 0) 0)) 0) 3) 0)
def lam21 : LamD := lamD "_law_rest_right.<locals>.<lambda>" (eX (eX (eX (sX (nS (defBody st__law_rest_right) 9)) 0) 3) 0)
def lam22 : LamD := lamD "_law_rest_right.<locals>.<lambda>" (eX (eX (eX (sX (nS (defBody st__law_rest_right) 10)) 0) 3) 0)
def lam23 : LamD := lamD "_law_rest_right.<locals>.<lambda>" (eX (eX (eX (sX (nS (sB (nS (sB (nS (defBody st__law_rest_right) 11) 0) 0) 0) 0)) 0) 3) 0)
def lam24 : LamD := lamD "_law_rest_right.<locals>.<lambda>" (eX (eX (eX (sX (nS (sB (nS (defBody st__law_rest_right) 11) 0) 1)) 0) 3) 0)
def lam25 : LamD := lamD "_law_rest_right.<locals>.<lambda>" (eX (sX (nS (defBody st__law_rest_right) 12)) 0)
def lam26 : LamD := lamD "_law_rest_right.<locals>.<lambda>" (eX (sX (nS (defBody st__law_rest_right) 13)) 1)
def lam27 : LamD := lamD "_law_rest_right.<locals>.<lambda>" (eX (sX (nS (defBody st__law_rest_right) 14)) 1)
def lam28 : LamD := lamD "_law_rest_right.<locals>.<lambda>" (eX (sX (nS (defBody st__law_rest_right) 15)) 1)
def lam29 : LamD := lamD "_law_rest_right.<locals>.<lambda>" (eX (sX (nS (defBody st__law_rest_right) 16)) 1)
def lamTab : Nat → LamD
  | 0 => lam0
  | 1 => lam1
  | 2 => lam2
  | 3 => lam3
  | 4 => lam4
  | 5 => lam5
  | 6 => lam6
  | 7 => lam7
  | 8 => lam8
  | 9 => lam9
  | 10 => lam10
  | 11 => lam11
  | 12 => lam12
  | 13 => lam13
  | 14 => lam14
  | 15 => lam15
  | 16 => lam16
  | 17 => lam17
  | 18 => lam18
  | 19 => lam19
  | 20 => lam20
  | 21 => lam21
  | 22 => lam22
  | 23 => lam23
  | 24 => lam24
  | 25 => lam25
  | 26 => lam26
  | 27 => lam27
  | 28 => lam28
  | 29 => lam29
  | _ => lam0
def ttOf (pp : Nat → Addr) : List (Addr × Str) := [(pp 0, "_law_leagues_right.<locals>.<lambda>"), (pp 1, "_law_rest_right.<locals>.<lambda>"), (pp 2, "runs_of.<locals>.<lambda>")]
abbrev csOf (cc pp : Nat → Addr) : List (Addr × Addr) := [(cc 0, pp 0), (cc 1, pp 1), (cc 2, pp 2)]
structure Facts (G : Gx) (P : Program) (K : PySem.W.Frag) (mg : Str → Option Value) (f : Nat → Addr) (fd : Nat → FuncData) (cc pp : Nat → Addr) : Prop where
  hK : K = G.K
  anc : Anc K G.ga nC anc
  cls : ∀ c < nC, ClsF K (G.ga c)
  rho : G.ρ = rhoOf G.ns
  xm : ∀ a < nC, ∀ b < nC, PySem.W.exmOne K (.ref (G.ga a)) (.ref (G.ga b)) = some ((Pm.anc a).elem b)
  c_TieError : mg "TieError" = some (.ref (G.ga 0))
  x_TieError : PySem.W.excIn K (G.ga 0) PySem.HandSPX.veTail "ValueError.__new__" = true
  c_InvalidNumber : mg "InvalidNumber" = some (.ref (G.ga 1))
  t_InvalidNumber : ∃ fI qual, PySem.TieX.TieTxt P K (G.ga 1) fI qual
  c_InvalidPerson : mg "InvalidPerson" = some (.ref (G.ga 2))
  t_InvalidPerson : ∃ fI qual, PySem.TieX.TieTxt P K (G.ga 2) fI qual
  c_InvalidCouple : mg "InvalidCouple" = some (.ref (G.ga 3))
  t_InvalidCouple : ∃ fI qual, PySem.TieX.TieTxt P K (G.ga 3) fI qual
  c_InvalidLeague : mg "InvalidLeague" = some (.ref (G.ga 4))
  t_InvalidLeague : ∃ fI qual, PySem.TieX.TieTxt P K (G.ga 4) fI qual
  c_Unlike : mg "Unlike" = some (.ref (G.ga 5))
  t_Unlike : ∃ fI qual, PySem.TieX.TieTxt P K (G.ga 5) fI qual
  z_ValueError : mg "ValueError" = none
  z_bool : mg "bool" = none
  z_enumerate : mg "enumerate" = none
  z_int : mg "int" = none
  z_isinstance : mg "isinstance" = none
  z_len : mg "len" = none
  z_list : mg "list" = none
  z_max : mg "max" = none
  z_min : mg "min" = none
  z_range : mg "range" = none
  z_repr : mg "repr" = none
  z_sorted : mg "sorted" = none
  z_super : mg "super" = none
  z_tuple : mg "tuple" = none
  g_MOST_PEOPLE : ∃ t, mg "MOST_PEOPLE" = some (.int 40 t)
  v_runs : mg "runs" = some (.ref (G.ga 6))
  gv_runs : G.ga 6 = f 10
  v_league_class_size : mg "league_class_size" = some (.ref (G.ga 7))
  gv_league_class_size : G.ga 7 = f 13
  v_leagues_by_turns : mg "leagues_by_turns" = some (.ref (G.ga 8))
  gv_leagues_by_turns : G.ga 8 = f 15
  v_league_number : mg "league_number" = some (.ref (G.ga 9))
  gv_league_number : G.ga 9 = f 18
  v_are_joined_leagues : mg "are_joined_leagues" = some (.ref (G.ga 10))
  gv_are_joined_leagues : G.ga 10 = f 23
  v_parting_people : mg "parting_people" = some (.ref (G.ga 11))
  gv_parting_people : G.ga 11 = f 27
  v_league_turns : mg "league_turns" = some (.ref (G.ga 12))
  gv_league_turns : G.ga 12 = f 28
  v_league_road : mg "league_road" = some (.ref (G.ga 13))
  gv_league_road : G.ga 13 = f 29
  lam : G.lam = lamTab
  tt : G.tt = ttOf pp
  cs : G.cs = csOf cc pp
  tu__law_leagues_right : ∀ p ∈ G.tt, p.1 = pp 0 → p.2 = "_law_leagues_right.<locals>.<lambda>"
  tu__law_rest_right : ∀ p ∈ G.tt, p.1 = pp 1 → p.2 = "_law_rest_right.<locals>.<lambda>"
  tu_runs_of : ∀ p ∈ G.tt, p.1 = pp 2 → p.2 = "runs_of.<locals>.<lambda>"
  d_is_whole : Df K mg "is_whole" "is_whole" st_is_whole (f 0) (fd 0)
  d_is_between : Df K mg "is_between" "is_between" st_is_between (f 1) (fd 1)
  d_are_ties : Df K mg "are_ties" "are_ties" st_are_ties (f 2) (fd 2)
  d_is_company_value : Df K mg "is_company_value" "is_company_value" st_is_company_value (f 3) (fd 3)
  d_is_league_value : Df K mg "is_league_value" "is_league_value" st_is_league_value (f 4) (fd 4)
  d_check_league : Df K mg "check_league" "check_league" st_check_league (f 5) (fd 5)
  d_won : Df K mg "won" "won" st_won (f 6) (fd 6)
  d_are_alike : Df K mg "are_alike" "are_alike" st_are_alike (f 7) (fd 7)
  d_alike_in : Df K mg "alike_in" "alike_in" st_alike_in (f 8) (fd 8)
  e_runs_of : DfC K mg "runs_of" "runs_of" st_runs_of (f 9) (fd 9) (cc 2)
  d_runs : Df K mg "runs" "runs" st_runs (f 10) (fd 10)
  d_factorial_of : Df K mg "factorial_of" "factorial_of" st_factorial_of (f 11) (fd 11)
  d_size_of : Df K mg "size_of" "size_of" st_size_of (f 12) (fd 12)
  d_league_class_size : Df K mg "league_class_size" "league_class_size" st_league_class_size (f 13) (fd 13)
  d_product_of : Df K mg "product_of" "product_of" st_product_of (f 14) (fd 14)
  d_leagues_by_turns : Df K mg "leagues_by_turns" "leagues_by_turns" st_leagues_by_turns (f 15) (fd 15)
  d_steps_of : Df K mg "steps_of" "steps_of" st_steps_of (f 16) (fd 16)
  d_laid_rows : Df K mg "laid_rows" "laid_rows" st_laid_rows (f 17) (fd 17)
  d_league_number : Df K mg "league_number" "league_number" st_league_number (f 18) (fd 18)
  d_check_two : Df K mg "check_two" "check_two" st_check_two (f 19) (fd 19)
  d_couples_of : Df K mg "couples_of" "couples_of" st_couples_of (f 20) (fd 20)
  d_unlike_results : Df K mg "unlike_results" "unlike_results" st_unlike_results (f 21) (fd 21)
  d_are_joined_of : Df K mg "are_joined_of" "are_joined_of" st_are_joined_of (f 22) (fd 22)
  d_are_joined_leagues : Df K mg "are_joined_leagues" "are_joined_leagues" st_are_joined_leagues (f 23) (fd 23)
  d_lots_of : Df K mg "lots_of" "lots_of" st_lots_of (f 24) (fd 24)
  d_tie_of : Df K mg "tie_of" "tie_of" st_tie_of (f 25) (fd 25)
  d_among_of : Df K mg "among_of" "among_of" st_among_of (f 26) (fd 26)
  d_parting_people : Df K mg "parting_people" "parting_people" st_parting_people (f 27) (fd 27)
  d_league_turns : Df K mg "league_turns" "league_turns" st_league_turns (f 28) (fd 28)
  d_league_road : Df K mg "league_road" "league_road" st_league_road (f 29) (fd 29)
  d_league_couples : Df K mg "league_couples" "league_couples" st_league_couples (f 30) (fd 30)
  d__law_caught : Df K mg "_law_caught" "_law_caught" st__law_caught (f 31) (fd 31)
  d__law_all : Df K mg "_law_all" "_law_all" st__law_all (f 32) (fd 32)
  d_is_person : Df K mg "is_person" "is_person" st_is_person (f 33) (fd 33)
  d_check_person : Df K mg "check_person" "check_person" st_check_person (f 34) (fd 34)
  d_beats : Df K mg "beats" "beats" st_beats (f 35) (fd 35)
  d_kept_rows : Df K mg "kept_rows" "kept_rows" st_kept_rows (f 36) (fd 36)
  d_turned_of : Df K mg "turned_of" "turned_of" st_turned_of (f 37) (fd 37)
  d_is_couple : Df K mg "is_couple" "is_couple" st_is_couple (f 38) (fd 38)
  d_turned : Df K mg "turned" "turned" st_turned (f 39) (fd 39)
  d_check_couple : Df K mg "check_couple" "check_couple" st_check_couple (f 40) (fd 40)
  d_is_sure_result : Df K mg "is_sure_result" "is_sure_result" st_is_sure_result (f 41) (fd 41)
  d_lots_with : Df K mg "lots_with" "lots_with" st_lots_with (f 42) (fd 42)
  d_sure_people : Df K mg "sure_people" "sure_people" st_sure_people (f 43) (fd 43)
  d_check_number : Df K mg "check_number" "check_number" st_check_number (f 44) (fd 44)
  d_league_at : Df K mg "league_at" "league_at" st_league_at (f 45) (fd 45)
  d_is_league_road : Df K mg "is_league_road" "is_league_road" st_is_league_road (f 46) (fd 46)
  d_is_league : Df K mg "is_league" "is_league" st_is_league (f 47) (fd 47)
  e__law_leagues_right : DfC K mg "_law_leagues_right" "_law_leagues_right" st__law_leagues_right (f 48) (fd 48) (cc 0)
  d__law_itself : Df K mg "_law_itself" "_law_itself" st__law_itself (f 49) (fd 49)
  e__law_rest_right : DfC K mg "_law_rest_right" "_law_rest_right" st__law_rest_right (f 50) (fd 50) (cc 1)
  d__law_named_right : Df K mg "_law_named_right" "_law_named_right" st__law_named_right (f 51) (fd 51)
  d_law : Df K mg "law" "law" st_law (f 52) (fd 52)
section
variable {G : Gx} {P : Program} {w : World} {K : PySem.W.Frag} {mg : Str → Option Value} {f : Nat → Addr} {fd : Nat → FuncData} {cc pp : Nat → Addr} (T : Facts G P K mg f fd cc pp)
include T
theorem Facts.no : ∀ c < nC, PySem.W.findIn K (.ref (G.ga c)) "value" = some none := fun c h => (T.cls c h).no
theorem Facts.at (m1 : Mp) : Facts (G.at m1) P K mg f fd cc pp := { hK := T.hK, anc := T.anc, cls := T.cls, rho := T.rho, xm := T.xm, c_TieError := T.c_TieError, x_TieError := T.x_TieError, c_InvalidNumber := T.c_InvalidNumber, t_InvalidNumber := T.t_InvalidNumber, c_InvalidPerson := T.c_InvalidPerson, t_InvalidPerson := T.t_InvalidPerson, c_InvalidCouple := T.c_InvalidCouple, t_InvalidCouple := T.t_InvalidCouple, c_InvalidLeague := T.c_InvalidLeague, t_InvalidLeague := T.t_InvalidLeague, c_Unlike := T.c_Unlike, t_Unlike := T.t_Unlike, z_ValueError := T.z_ValueError, z_bool := T.z_bool, z_enumerate := T.z_enumerate, z_int := T.z_int, z_isinstance := T.z_isinstance, z_len := T.z_len, z_list := T.z_list, z_max := T.z_max, z_min := T.z_min, z_range := T.z_range, z_repr := T.z_repr, z_sorted := T.z_sorted, z_super := T.z_super, z_tuple := T.z_tuple, g_MOST_PEOPLE := T.g_MOST_PEOPLE, v_runs := T.v_runs, gv_runs := T.gv_runs, v_league_class_size := T.v_league_class_size, gv_league_class_size := T.gv_league_class_size, v_leagues_by_turns := T.v_leagues_by_turns, gv_leagues_by_turns := T.gv_leagues_by_turns, v_league_number := T.v_league_number, gv_league_number := T.gv_league_number, v_are_joined_leagues := T.v_are_joined_leagues, gv_are_joined_leagues := T.gv_are_joined_leagues, v_parting_people := T.v_parting_people, gv_parting_people := T.gv_parting_people, v_league_turns := T.v_league_turns, gv_league_turns := T.gv_league_turns, v_league_road := T.v_league_road, gv_league_road := T.gv_league_road, lam := T.lam, tt := T.tt, cs := T.cs, tu__law_leagues_right := T.tu__law_leagues_right, tu__law_rest_right := T.tu__law_rest_right, tu_runs_of := T.tu_runs_of, d_is_whole := T.d_is_whole, d_is_between := T.d_is_between, d_are_ties := T.d_are_ties, d_is_company_value := T.d_is_company_value, d_is_league_value := T.d_is_league_value, d_check_league := T.d_check_league, d_won := T.d_won, d_are_alike := T.d_are_alike, d_alike_in := T.d_alike_in, e_runs_of := T.e_runs_of, d_runs := T.d_runs, d_factorial_of := T.d_factorial_of, d_size_of := T.d_size_of, d_league_class_size := T.d_league_class_size, d_product_of := T.d_product_of, d_leagues_by_turns := T.d_leagues_by_turns, d_steps_of := T.d_steps_of, d_laid_rows := T.d_laid_rows, d_league_number := T.d_league_number, d_check_two := T.d_check_two, d_couples_of := T.d_couples_of, d_unlike_results := T.d_unlike_results, d_are_joined_of := T.d_are_joined_of, d_are_joined_leagues := T.d_are_joined_leagues, d_lots_of := T.d_lots_of, d_tie_of := T.d_tie_of, d_among_of := T.d_among_of, d_parting_people := T.d_parting_people, d_league_turns := T.d_league_turns, d_league_road := T.d_league_road, d_league_couples := T.d_league_couples, d__law_caught := T.d__law_caught, d__law_all := T.d__law_all, d_is_person := T.d_is_person, d_check_person := T.d_check_person, d_beats := T.d_beats, d_kept_rows := T.d_kept_rows, d_turned_of := T.d_turned_of, d_is_couple := T.d_is_couple, d_turned := T.d_turned, d_check_couple := T.d_check_couple, d_is_sure_result := T.d_is_sure_result, d_lots_with := T.d_lots_with, d_sure_people := T.d_sure_people, d_check_number := T.d_check_number, d_league_at := T.d_league_at, d_is_league_road := T.d_is_league_road, d_is_league := T.d_is_league, e__law_leagues_right := T.e__law_leagues_right, d__law_itself := T.d__law_itself, e__law_rest_right := T.e__law_rest_right, d__law_named_right := T.d__law_named_right, d_law := T.d_law }
theorem Facts.d_runs_of : Df K mg "runs_of" "runs_of" st_runs_of (f 9) (fd 9) := ⟨T.e_runs_of.F.fn, T.e_runs_of.m⟩
theorem Facts.d__law_leagues_right : Df K mg "_law_leagues_right" "_law_leagues_right" st__law_leagues_right (f 48) (fd 48) := ⟨T.e__law_leagues_right.F.fn, T.e__law_leagues_right.m⟩
theorem Facts.d__law_rest_right : Df K mg "_law_rest_right" "_law_rest_right" st__law_rest_right (f 50) (fd 50) := ⟨T.e__law_rest_right.F.fn, T.e__law_rest_right.m⟩
theorem Facts.b_is_whole : Binds K (fd 0) ["value"] [] := T.d_is_whole.F.binds (ps := ["value"]) fun _ _ _ _ _ _ us hl => match us, hl with | [_], _ => rfl
theorem Facts.b_is_between : Binds K (fd 1) ["value", "low", "high"] [] := T.d_is_between.F.binds (ps := ["value", "low", "high"]) fun _ _ _ _ _ _ us hl => match us, hl with | [_, _, _], _ => rfl
theorem Facts.b_are_ties : Binds K (fd 2) ["kinds", "size", "value"] [] := T.d_are_ties.F.binds (ps := ["kinds", "size", "value"]) fun _ _ _ _ _ _ us hl => match us, hl with | [_, _, _], _ => rfl
theorem Facts.b_is_company_value : Binds K (fd 3) ["kinds", "value"] [] := T.d_is_company_value.F.binds (ps := ["kinds", "value"]) fun _ _ _ _ _ _ us hl => match us, hl with | [_, _], _ => rfl
theorem Facts.b_is_league_value : Binds K (fd 4) ["value"] [] := T.d_is_league_value.F.binds (ps := ["value"]) fun _ _ _ _ _ _ us hl => match us, hl with | [_], _ => rfl
theorem Facts.b_check_league : Binds K (fd 5) ["league"] [] := T.d_check_league.F.binds (ps := ["league"]) fun _ _ _ _ _ _ us hl => match us, hl with | [_], _ => rfl
theorem Facts.b_won : Binds K (fd 6) ["league", "one", "other"] [] := T.d_won.F.binds (ps := ["league", "one", "other"]) fun _ _ _ _ _ _ us hl => match us, hl with | [_, _, _], _ => rfl
theorem Facts.b_are_alike : Binds K (fd 7) ["league", "one", "other"] [] := T.d_are_alike.F.binds (ps := ["league", "one", "other"]) fun _ _ _ _ _ _ us hl => match us, hl with | [_, _, _], _ => rfl
theorem Facts.b_alike_in : Binds K (fd 8) ["league"] [] := T.d_alike_in.F.binds (ps := ["league"]) fun _ _ _ _ _ _ us hl => match us, hl with | [_], _ => rfl
theorem Facts.b_runs_of : Binds K (fd 9) ["league"] [] := T.d_runs_of.F.binds (ps := ["league"]) fun _ _ _ _ _ _ us hl => match us, hl with | [_], _ => rfl
theorem Facts.b_runs : Binds K (fd 10) ["league"] [] := T.d_runs.F.binds (ps := ["league"]) fun _ _ _ _ _ _ us hl => match us, hl with | [_], _ => rfl
theorem Facts.b_factorial_of : Binds K (fd 11) ["number"] [] := T.d_factorial_of.F.binds (ps := ["number"]) fun _ _ _ _ _ _ us hl => match us, hl with | [_], _ => rfl
theorem Facts.b_size_of : Binds K (fd 12) ["league"] [] := T.d_size_of.F.binds (ps := ["league"]) fun _ _ _ _ _ _ us hl => match us, hl with | [_], _ => rfl
theorem Facts.b_league_class_size : Binds K (fd 13) ["league"] [] := T.d_league_class_size.F.binds (ps := ["league"]) fun _ _ _ _ _ _ us hl => match us, hl with | [_], _ => rfl
theorem Facts.b_product_of : Binds K (fd 14) ["one", "other"] [] := T.d_product_of.F.binds (ps := ["one", "other"]) fun _ _ _ _ _ _ us hl => match us, hl with | [_, _], _ => rfl
theorem Facts.b_leagues_by_turns : Binds K (fd 15) ["league"] [] := T.d_leagues_by_turns.F.binds (ps := ["league"]) fun _ _ _ _ _ _ us hl => match us, hl with | [_], _ => rfl
theorem Facts.b_steps_of : Binds K (fd 16) ["league"] [] := T.d_steps_of.F.binds (ps := ["league"]) fun _ _ _ _ _ _ us hl => match us, hl with | [_], _ => rfl
theorem Facts.b_laid_rows : Binds K (fd 17) ["row", "person"] [] := T.d_laid_rows.F.binds (ps := ["row", "person"]) fun _ _ _ _ _ _ us hl => match us, hl with | [_, _], _ => rfl
theorem Facts.b_league_number : Binds K (fd 18) ["league"] [] := T.d_league_number.F.binds (ps := ["league"]) fun _ _ _ _ _ _ us hl => match us, hl with | [_], _ => rfl
theorem Facts.b_check_two : Binds K (fd 19) ["one", "other"] [] := T.d_check_two.F.binds (ps := ["one", "other"]) fun _ _ _ _ _ _ us hl => match us, hl with | [_, _], _ => rfl
theorem Facts.b_couples_of : Binds K (fd 20) ["company"] [] := T.d_couples_of.F.binds (ps := ["company"]) fun _ _ _ _ _ _ us hl => match us, hl with | [_], _ => rfl
theorem Facts.b_unlike_results : Binds K (fd 21) ["one", "other"] [] := T.d_unlike_results.F.binds (ps := ["one", "other"]) fun _ _ _ _ _ _ us hl => match us, hl with | [_, _], _ => rfl
theorem Facts.b_are_joined_of : Binds K (fd 22) ["one", "other"] [] := T.d_are_joined_of.F.binds (ps := ["one", "other"]) fun _ _ _ _ _ _ us hl => match us, hl with | [_, _], _ => rfl
theorem Facts.b_are_joined_leagues : Binds K (fd 23) ["one", "other"] [] := T.d_are_joined_leagues.F.binds (ps := ["one", "other"]) fun _ _ _ _ _ _ us hl => match us, hl with | [_, _], _ => rfl
theorem Facts.b_lots_of : Binds K (fd 24) ["size", "many"] [] := T.d_lots_of.F.binds (ps := ["size", "many"]) fun _ _ _ _ _ _ us hl => match us, hl with | [_, _], _ => rfl
theorem Facts.b_tie_of : Binds K (fd 25) ["company", "one", "other"] [] := T.d_tie_of.F.binds (ps := ["company", "one", "other"]) fun _ _ _ _ _ _ us hl => match us, hl with | [_, _, _], _ => rfl
theorem Facts.b_among_of : Binds K (fd 26) ["company", "people"] [] := T.d_among_of.F.binds (ps := ["company", "people"]) fun _ _ _ _ _ _ us hl => match us, hl with | [_, _], _ => rfl
theorem Facts.b_parting_people : Binds K (fd 27) ["one", "other"] [] := T.d_parting_people.F.binds (ps := ["one", "other"]) fun _ _ _ _ _ _ us hl => match us, hl with | [_, _], _ => rfl
theorem Facts.b_league_turns : Binds K (fd 28) ["one", "other"] [] := T.d_league_turns.F.binds (ps := ["one", "other"]) fun _ _ _ _ _ _ us hl => match us, hl with | [_, _], _ => rfl
theorem Facts.b_league_road : Binds K (fd 29) ["one", "other"] [] := T.d_league_road.F.binds (ps := ["one", "other"]) fun _ _ _ _ _ _ us hl => match us, hl with | [_, _], _ => rfl
theorem Facts.b_league_couples : Binds K (fd 30) ["league"] [] := T.d_league_couples.F.binds (ps := ["league"]) fun _ _ _ _ _ _ us hl => match us, hl with | [_], _ => rfl
theorem Facts.b__law_caught : Binds K (fd 31) ["_law_call"] [] := T.d__law_caught.F.binds (ps := ["_law_call"]) fun _ _ _ _ _ _ us hl => match us, hl with | [_], _ => rfl
theorem Facts.b__law_all : Binds K (fd 32) ["_law_name", "_law_bad", "_law_calls"] [] := T.d__law_all.F.binds (ps := ["_law_name", "_law_bad", "_law_calls"]) fun _ _ _ _ _ _ us hl => match us, hl with | [_, _, _], _ => rfl
theorem Facts.b_is_person : Binds K (fd 33) ["company", "value"] [] := T.d_is_person.F.binds (ps := ["company", "value"]) fun _ _ _ _ _ _ us hl => match us, hl with | [_, _], _ => rfl
theorem Facts.b_check_person : Binds K (fd 34) ["company", "person"] [] := T.d_check_person.F.binds (ps := ["company", "person"]) fun _ _ _ _ _ _ us hl => match us, hl with | [_, _], _ => rfl
theorem Facts.b_beats : Binds K (fd 35) ["league", "person", "loser"] [] := T.d_beats.F.binds (ps := ["league", "person", "loser"]) fun _ _ _ _ _ _ us hl => match us, hl with | [_, _, _], _ => rfl
theorem Facts.b_kept_rows : Binds K (fd 36) ["rows"] [] := T.d_kept_rows.F.binds (ps := ["rows"]) fun _ _ _ _ _ _ us hl => match us, hl with | [_], _ => rfl
theorem Facts.b_turned_of : Binds K (fd 37) ["league", "couple"] [] := T.d_turned_of.F.binds (ps := ["league", "couple"]) fun _ _ _ _ _ _ us hl => match us, hl with | [_, _], _ => rfl
theorem Facts.b_is_couple : Binds K (fd 38) ["company", "value"] [] := T.d_is_couple.F.binds (ps := ["company", "value"]) fun _ _ _ _ _ _ us hl => match us, hl with | [_, _], _ => rfl
theorem Facts.b_turned : Binds K (fd 39) ["league", "couple"] [] := T.d_turned.F.binds (ps := ["league", "couple"]) fun _ _ _ _ _ _ us hl => match us, hl with | [_, _], _ => rfl
theorem Facts.b_check_couple : Binds K (fd 40) ["company", "couple"] [] := T.d_check_couple.F.binds (ps := ["company", "couple"]) fun _ _ _ _ _ _ us hl => match us, hl with | [_, _], _ => rfl
theorem Facts.b_is_sure_result : Binds K (fd 41) ["league", "couple"] [] := T.d_is_sure_result.F.binds (ps := ["league", "couple"]) fun _ _ _ _ _ _ us hl => match us, hl with | [_, _], _ => rfl
theorem Facts.b_lots_with : Binds K (fd 42) ["couple", "size", "many"] [] := T.d_lots_with.F.binds (ps := ["couple", "size", "many"]) fun _ _ _ _ _ _ us hl => match us, hl with | [_, _, _], _ => rfl
theorem Facts.b_sure_people : Binds K (fd 43) ["league", "couple"] [] := T.d_sure_people.F.binds (ps := ["league", "couple"]) fun _ _ _ _ _ _ us hl => match us, hl with | [_, _], _ => rfl
theorem Facts.b_check_number : Binds K (fd 44) ["number", "low", "high"] [] := T.d_check_number.F.binds (ps := ["number", "low", "high"]) fun _ _ _ _ _ _ us hl => match us, hl with | [_, _, _], _ => rfl
theorem Facts.b_league_at : Binds K (fd 45) ["league", "number"] [] := T.d_league_at.F.binds (ps := ["league", "number"]) fun _ _ _ _ _ _ us hl => match us, hl with | [_, _], _ => rfl
theorem Facts.b_is_league_road : Binds K (fd 46) ["one", "other", "value"] [] := T.d_is_league_road.F.binds (ps := ["one", "other", "value"]) fun _ _ _ _ _ _ us hl => match us, hl with | [_, _, _], _ => rfl
theorem Facts.b_is_league : Binds K (fd 47) ["value"] [] := T.d_is_league.F.binds (ps := ["value"]) fun _ _ _ _ _ _ us hl => match us, hl with | [_], _ => rfl
theorem Facts.b__law_leagues_right : Binds K (fd 48) ["_law_below", "_law_far"] [] := T.d__law_leagues_right.F.binds (ps := ["_law_below", "_law_far"]) fun _ _ _ _ _ _ us hl => match us, hl with | [_, _], _ => rfl
theorem Facts.b__law_itself : Binds K (fd 49) ["_law_call"] [] := T.d__law_itself.F.binds (ps := ["_law_call"]) fun _ _ _ _ _ _ us hl => match us, hl with | [_], _ => rfl
theorem Facts.b__law_rest_right : Binds K (fd 50) ["_law_below", "_law_far"] [] := T.d__law_rest_right.F.binds (ps := ["_law_below", "_law_far"]) fun _ _ _ _ _ _ us hl => match us, hl with | [_, _], _ => rfl
theorem Facts.b__law_named_right : Binds K (fd 51) [] [] := T.d__law_named_right.F.binds (ps := []) fun _ _ _ _ _ _ us hl => match us, hl with | [], _ => rfl
theorem Facts.b_law : Binds K (fd 52) ["_law_script"] [] := T.d_law.F.binds (ps := ["_law_script"]) fun _ _ _ _ _ _ us hl => match us, hl with | [_], _ => rfl
end
theorem gk0_rel {α β : Type} {R : α → β → Prop} {as cs : List α} {bs ds : List β} (r : Paired R as bs) (s : Paired R cs ds) : Paired R (gk0 as cs) (gk0 bs ds) := by
  rcases r with _ | ⟨zz, zs⟩ <;> rcases s with _ | ⟨b0, _ | ⟨zz, zs⟩⟩ <;> repeat (first | exact Paired.nil | assumption | refine Paired.cons ?_ ?_)
section
variable {G : Gx} {P : Program} {w : World} {K : PySem.W.Frag} {mg : Str → Option Value} {f : Nat → Addr} {fd : Nat → FuncData} {cc pp : Nat → Addr} (T : Facts G P K mg f fd cc pp)
include T
theorem Facts.kb_gk0 : L2.KBinds K (fd 47) [("value" : Str)] [("value" : Str)] gk0 gk0 := by
  refine ⟨fun s us ws _ hl => ?_, fun r rz => gk0_rel r rz⟩
  obtain ⟨_, _, _, _, _, _, _, _, _, ez, _, _⟩ := T.d_is_league.F.ex
  rw [ez]
  rcases us with _ | ⟨zz, zs⟩ <;> rcases ws with _ | ⟨b0, _ | ⟨zz, zs⟩⟩ <;> first | exact nomatch (show (0 : Nat) = 1 from hl) | exact BindsTo.of_eq rfl
end
theorem gk1_rel {α β : Type} {R : α → β → Prop} {as cs : List α} {bs ds : List β} (r : Paired R as bs) (s : Paired R cs ds) : Paired R (gk1 as cs) (gk1 bs ds) := by
  rcases r with _ | ⟨zz, zs⟩ <;> rcases s with _ | ⟨b0, _ | ⟨b1, _ | ⟨b2, _ | ⟨zz, zs⟩⟩⟩⟩ <;> repeat (first | exact Paired.nil | assumption | refine Paired.cons ?_ ?_)
section
variable {G : Gx} {P : Program} {w : World} {K : PySem.W.Frag} {mg : Str → Option Value} {f : Nat → Addr} {fd : Nat → FuncData} {cc pp : Nat → Addr} (T : Facts G P K mg f fd cc pp)
include T
theorem Facts.kb_gk1 : L2.KBinds K (fd 35) [("league" : Str), ("person" : Str), ("loser" : Str)] [("loser" : Str), ("person" : Str), ("league" : Str)] gk1 gk1 := by
  refine ⟨fun s us ws _ hl => ?_, fun r rz => gk1_rel r rz⟩
  obtain ⟨_, _, _, _, _, _, _, _, _, ez, _, _⟩ := T.d_beats.F.ex
  rw [ez]
  rcases us with _ | ⟨zz, zs⟩ <;> rcases ws with _ | ⟨b0, _ | ⟨b1, _ | ⟨b2, _ | ⟨zz, zs⟩⟩⟩⟩ <;> first | exact nomatch (show (0 : Nat) = 3 from hl) | exact BindsTo.of_eq rfl
end
theorem gk2_rel {α β : Type} {R : α → β → Prop} {as cs : List α} {bs ds : List β} (r : Paired R as bs) (s : Paired R cs ds) : Paired R (gk2 as cs) (gk2 bs ds) := by
  rcases r with _ | ⟨zz, zs⟩ <;> rcases s with _ | ⟨b0, _ | ⟨zz, zs⟩⟩ <;> repeat (first | exact Paired.nil | assumption | refine Paired.cons ?_ ?_)
section
variable {G : Gx} {P : Program} {w : World} {K : PySem.W.Frag} {mg : Str → Option Value} {f : Nat → Addr} {fd : Nat → FuncData} {cc pp : Nat → Addr} (T : Facts G P K mg f fd cc pp)
include T
theorem Facts.kb_gk2 : L2.KBinds K (fd 30) [("league" : Str)] [("league" : Str)] gk2 gk2 := by
  refine ⟨fun s us ws _ hl => ?_, fun r rz => gk2_rel r rz⟩
  obtain ⟨_, _, _, _, _, _, _, _, _, ez, _, _⟩ := T.d_league_couples.F.ex
  rw [ez]
  rcases us with _ | ⟨zz, zs⟩ <;> rcases ws with _ | ⟨b0, _ | ⟨zz, zs⟩⟩ <;> first | exact nomatch (show (0 : Nat) = 1 from hl) | exact BindsTo.of_eq rfl
end
theorem gk3_rel {α β : Type} {R : α → β → Prop} {as cs : List α} {bs ds : List β} (r : Paired R as bs) (s : Paired R cs ds) : Paired R (gk3 as cs) (gk3 bs ds) := by
  rcases r with _ | ⟨zz, zs⟩ <;> rcases s with _ | ⟨b0, _ | ⟨b1, _ | ⟨zz, zs⟩⟩⟩ <;> repeat (first | exact Paired.nil | assumption | refine Paired.cons ?_ ?_)
section
variable {G : Gx} {P : Program} {w : World} {K : PySem.W.Frag} {mg : Str → Option Value} {f : Nat → Addr} {fd : Nat → FuncData} {cc pp : Nat → Addr} (T : Facts G P K mg f fd cc pp)
include T
theorem Facts.kb_gk3 : L2.KBinds K (fd 39) [("league" : Str), ("couple" : Str)] [("couple" : Str), ("league" : Str)] gk3 gk3 := by
  refine ⟨fun s us ws _ hl => ?_, fun r rz => gk3_rel r rz⟩
  obtain ⟨_, _, _, _, _, _, _, _, _, ez, _, _⟩ := T.d_turned.F.ex
  rw [ez]
  rcases us with _ | ⟨zz, zs⟩ <;> rcases ws with _ | ⟨b0, _ | ⟨b1, _ | ⟨zz, zs⟩⟩⟩ <;> first | exact nomatch (show (0 : Nat) = 2 from hl) | exact BindsTo.of_eq rfl
end
theorem gk4_rel {α β : Type} {R : α → β → Prop} {as cs : List α} {bs ds : List β} (r : Paired R as bs) (s : Paired R cs ds) : Paired R (gk4 as cs) (gk4 bs ds) := by
  rcases r with _ | ⟨zz, zs⟩ <;> rcases s with _ | ⟨b0, _ | ⟨b1, _ | ⟨zz, zs⟩⟩⟩ <;> repeat (first | exact Paired.nil | assumption | refine Paired.cons ?_ ?_)
section
variable {G : Gx} {P : Program} {w : World} {K : PySem.W.Frag} {mg : Str → Option Value} {f : Nat → Addr} {fd : Nat → FuncData} {cc pp : Nat → Addr} (T : Facts G P K mg f fd cc pp)
include T
theorem Facts.kb_gk4 : L2.KBinds K (fd 23) [("one" : Str), ("other" : Str)] [("other" : Str), ("one" : Str)] gk4 gk4 := by
  refine ⟨fun s us ws _ hl => ?_, fun r rz => gk4_rel r rz⟩
  obtain ⟨_, _, _, _, _, _, _, _, _, ez, _, _⟩ := T.d_are_joined_leagues.F.ex
  rw [ez]
  rcases us with _ | ⟨zz, zs⟩ <;> rcases ws with _ | ⟨b0, _ | ⟨b1, _ | ⟨zz, zs⟩⟩⟩ <;> first | exact nomatch (show (0 : Nat) = 2 from hl) | exact BindsTo.of_eq rfl
end
theorem gk5_rel {α β : Type} {R : α → β → Prop} {as cs : List α} {bs ds : List β} (r : Paired R as bs) (s : Paired R cs ds) : Paired R (gk5 as cs) (gk5 bs ds) := by
  rcases r with _ | ⟨zz, zs⟩ <;> rcases s with _ | ⟨b0, _ | ⟨b1, _ | ⟨zz, zs⟩⟩⟩ <;> repeat (first | exact Paired.nil | assumption | refine Paired.cons ?_ ?_)
section
variable {G : Gx} {P : Program} {w : World} {K : PySem.W.Frag} {mg : Str → Option Value} {f : Nat → Addr} {fd : Nat → FuncData} {cc pp : Nat → Addr} (T : Facts G P K mg f fd cc pp)
include T
theorem Facts.kb_gk5 : L2.KBinds K (fd 27) [("one" : Str), ("other" : Str)] [("other" : Str), ("one" : Str)] gk5 gk5 := by
  refine ⟨fun s us ws _ hl => ?_, fun r rz => gk5_rel r rz⟩
  obtain ⟨_, _, _, _, _, _, _, _, _, ez, _, _⟩ := T.d_parting_people.F.ex
  rw [ez]
  rcases us with _ | ⟨zz, zs⟩ <;> rcases ws with _ | ⟨b0, _ | ⟨b1, _ | ⟨zz, zs⟩⟩⟩ <;> first | exact nomatch (show (0 : Nat) = 2 from hl) | exact BindsTo.of_eq rfl
end
theorem gk6_rel {α β : Type} {R : α → β → Prop} {as cs : List α} {bs ds : List β} (r : Paired R as bs) (s : Paired R cs ds) : Paired R (gk6 as cs) (gk6 bs ds) := by
  rcases r with _ | ⟨zz, zs⟩ <;> rcases s with _ | ⟨b0, _ | ⟨b1, _ | ⟨zz, zs⟩⟩⟩ <;> repeat (first | exact Paired.nil | assumption | refine Paired.cons ?_ ?_)
section
variable {G : Gx} {P : Program} {w : World} {K : PySem.W.Frag} {mg : Str → Option Value} {f : Nat → Addr} {fd : Nat → FuncData} {cc pp : Nat → Addr} (T : Facts G P K mg f fd cc pp)
include T
theorem Facts.kb_gk6 : L2.KBinds K (fd 28) [("one" : Str), ("other" : Str)] [("other" : Str), ("one" : Str)] gk6 gk6 := by
  refine ⟨fun s us ws _ hl => ?_, fun r rz => gk6_rel r rz⟩
  obtain ⟨_, _, _, _, _, _, _, _, _, ez, _, _⟩ := T.d_league_turns.F.ex
  rw [ez]
  rcases us with _ | ⟨zz, zs⟩ <;> rcases ws with _ | ⟨b0, _ | ⟨b1, _ | ⟨zz, zs⟩⟩⟩ <;> first | exact nomatch (show (0 : Nat) = 2 from hl) | exact BindsTo.of_eq rfl
end
theorem gk7_rel {α β : Type} {R : α → β → Prop} {as cs : List α} {bs ds : List β} (r : Paired R as bs) (s : Paired R cs ds) : Paired R (gk7 as cs) (gk7 bs ds) := by
  rcases r with _ | ⟨zz, zs⟩ <;> rcases s with _ | ⟨b0, _ | ⟨b1, _ | ⟨zz, zs⟩⟩⟩ <;> repeat (first | exact Paired.nil | assumption | refine Paired.cons ?_ ?_)
section
variable {G : Gx} {P : Program} {w : World} {K : PySem.W.Frag} {mg : Str → Option Value} {f : Nat → Addr} {fd : Nat → FuncData} {cc pp : Nat → Addr} (T : Facts G P K mg f fd cc pp)
include T
theorem Facts.kb_gk7 : L2.KBinds K (fd 29) [("one" : Str), ("other" : Str)] [("other" : Str), ("one" : Str)] gk7 gk7 := by
  refine ⟨fun s us ws _ hl => ?_, fun r rz => gk7_rel r rz⟩
  obtain ⟨_, _, _, _, _, _, _, _, _, ez, _, _⟩ := T.d_league_road.F.ex
  rw [ez]
  rcases us with _ | ⟨zz, zs⟩ <;> rcases ws with _ | ⟨b0, _ | ⟨b1, _ | ⟨zz, zs⟩⟩⟩ <;> first | exact nomatch (show (0 : Nat) = 2 from hl) | exact BindsTo.of_eq rfl
end
theorem gk8_rel {α β : Type} {R : α → β → Prop} {as cs : List α} {bs ds : List β} (r : Paired R as bs) (s : Paired R cs ds) : Paired R (gk8 as cs) (gk8 bs ds) := by
  rcases r with _ | ⟨zz, zs⟩ <;> rcases s with _ | ⟨b0, _ | ⟨b1, _ | ⟨b2, _ | ⟨zz, zs⟩⟩⟩⟩ <;> repeat (first | exact Paired.nil | assumption | refine Paired.cons ?_ ?_)
section
variable {G : Gx} {P : Program} {w : World} {K : PySem.W.Frag} {mg : Str → Option Value} {f : Nat → Addr} {fd : Nat → FuncData} {cc pp : Nat → Addr} (T : Facts G P K mg f fd cc pp)
include T
theorem Facts.kb_gk8 : L2.KBinds K (fd 46) [("one" : Str), ("other" : Str), ("value" : Str)] [("value" : Str), ("other" : Str), ("one" : Str)] gk8 gk8 := by
  refine ⟨fun s us ws _ hl => ?_, fun r rz => gk8_rel r rz⟩
  obtain ⟨_, _, _, _, _, _, _, _, _, ez, _, _⟩ := T.d_is_league_road.F.ex
  rw [ez]
  rcases us with _ | ⟨zz, zs⟩ <;> rcases ws with _ | ⟨b0, _ | ⟨b1, _ | ⟨b2, _ | ⟨zz, zs⟩⟩⟩⟩ <;> first | exact nomatch (show (0 : Nat) = 3 from hl) | exact BindsTo.of_eq rfl
end
theorem gk9_rel {α β : Type} {R : α → β → Prop} {as cs : List α} {bs ds : List β} (r : Paired R as bs) (s : Paired R cs ds) : Paired R (gk9 as cs) (gk9 bs ds) := by
  rcases r with _ | ⟨zz, zs⟩ <;> rcases s with _ | ⟨b0, _ | ⟨zz, zs⟩⟩ <;> repeat (first | exact Paired.nil | assumption | refine Paired.cons ?_ ?_)
section
variable {G : Gx} {P : Program} {w : World} {K : PySem.W.Frag} {mg : Str → Option Value} {f : Nat → Addr} {fd : Nat → FuncData} {cc pp : Nat → Addr} (T : Facts G P K mg f fd cc pp)
include T
theorem Facts.kb_gk9 : L2.KBinds K (fd 10) [("league" : Str)] [("league" : Str)] gk9 gk9 := by
  refine ⟨fun s us ws _ hl => ?_, fun r rz => gk9_rel r rz⟩
  obtain ⟨_, _, _, _, _, _, _, _, _, ez, _, _⟩ := T.d_runs.F.ex
  rw [ez]
  rcases us with _ | ⟨zz, zs⟩ <;> rcases ws with _ | ⟨b0, _ | ⟨zz, zs⟩⟩ <;> first | exact nomatch (show (0 : Nat) = 1 from hl) | exact BindsTo.of_eq rfl
end
theorem gk10_rel {α β : Type} {R : α → β → Prop} {as cs : List α} {bs ds : List β} (r : Paired R as bs) (s : Paired R cs ds) : Paired R (gk10 as cs) (gk10 bs ds) := by
  rcases r with _ | ⟨zz, zs⟩ <;> rcases s with _ | ⟨b0, _ | ⟨zz, zs⟩⟩ <;> repeat (first | exact Paired.nil | assumption | refine Paired.cons ?_ ?_)
section
variable {G : Gx} {P : Program} {w : World} {K : PySem.W.Frag} {mg : Str → Option Value} {f : Nat → Addr} {fd : Nat → FuncData} {cc pp : Nat → Addr} (T : Facts G P K mg f fd cc pp)
include T
theorem Facts.kb_gk10 : L2.KBinds K (fd 13) [("league" : Str)] [("league" : Str)] gk10 gk10 := by
  refine ⟨fun s us ws _ hl => ?_, fun r rz => gk10_rel r rz⟩
  obtain ⟨_, _, _, _, _, _, _, _, _, ez, _, _⟩ := T.d_league_class_size.F.ex
  rw [ez]
  rcases us with _ | ⟨zz, zs⟩ <;> rcases ws with _ | ⟨b0, _ | ⟨zz, zs⟩⟩ <;> first | exact nomatch (show (0 : Nat) = 1 from hl) | exact BindsTo.of_eq rfl
end
theorem gk11_rel {α β : Type} {R : α → β → Prop} {as cs : List α} {bs ds : List β} (r : Paired R as bs) (s : Paired R cs ds) : Paired R (gk11 as cs) (gk11 bs ds) := by
  rcases r with _ | ⟨zz, zs⟩ <;> rcases s with _ | ⟨b0, _ | ⟨zz, zs⟩⟩ <;> repeat (first | exact Paired.nil | assumption | refine Paired.cons ?_ ?_)
section
variable {G : Gx} {P : Program} {w : World} {K : PySem.W.Frag} {mg : Str → Option Value} {f : Nat → Addr} {fd : Nat → FuncData} {cc pp : Nat → Addr} (T : Facts G P K mg f fd cc pp)
include T
theorem Facts.kb_gk11 : L2.KBinds K (fd 15) [("league" : Str)] [("league" : Str)] gk11 gk11 := by
  refine ⟨fun s us ws _ hl => ?_, fun r rz => gk11_rel r rz⟩
  obtain ⟨_, _, _, _, _, _, _, _, _, ez, _, _⟩ := T.d_leagues_by_turns.F.ex
  rw [ez]
  rcases us with _ | ⟨zz, zs⟩ <;> rcases ws with _ | ⟨b0, _ | ⟨zz, zs⟩⟩ <;> first | exact nomatch (show (0 : Nat) = 1 from hl) | exact BindsTo.of_eq rfl
end
theorem gk12_rel {α β : Type} {R : α → β → Prop} {as cs : List α} {bs ds : List β} (r : Paired R as bs) (s : Paired R cs ds) : Paired R (gk12 as cs) (gk12 bs ds) := by
  rcases r with _ | ⟨zz, zs⟩ <;> rcases s with _ | ⟨b0, _ | ⟨b1, _ | ⟨zz, zs⟩⟩⟩ <;> repeat (first | exact Paired.nil | assumption | refine Paired.cons ?_ ?_)
section
variable {G : Gx} {P : Program} {w : World} {K : PySem.W.Frag} {mg : Str → Option Value} {f : Nat → Addr} {fd : Nat → FuncData} {cc pp : Nat → Addr} (T : Facts G P K mg f fd cc pp)
include T
theorem Facts.kb_gk12 : L2.KBinds K (fd 41) [("league" : Str), ("couple" : Str)] [("couple" : Str), ("league" : Str)] gk12 gk12 := by
  refine ⟨fun s us ws _ hl => ?_, fun r rz => gk12_rel r rz⟩
  obtain ⟨_, _, _, _, _, _, _, _, _, ez, _, _⟩ := T.d_is_sure_result.F.ex
  rw [ez]
  rcases us with _ | ⟨zz, zs⟩ <;> rcases ws with _ | ⟨b0, _ | ⟨b1, _ | ⟨zz, zs⟩⟩⟩ <;> first | exact nomatch (show (0 : Nat) = 2 from hl) | exact BindsTo.of_eq rfl
end
theorem gk13_rel {α β : Type} {R : α → β → Prop} {as cs : List α} {bs ds : List β} (r : Paired R as bs) (s : Paired R cs ds) : Paired R (gk13 as cs) (gk13 bs ds) := by
  rcases r with _ | ⟨zz, zs⟩ <;> rcases s with _ | ⟨b0, _ | ⟨b1, _ | ⟨zz, zs⟩⟩⟩ <;> repeat (first | exact Paired.nil | assumption | refine Paired.cons ?_ ?_)
section
variable {G : Gx} {P : Program} {w : World} {K : PySem.W.Frag} {mg : Str → Option Value} {f : Nat → Addr} {fd : Nat → FuncData} {cc pp : Nat → Addr} (T : Facts G P K mg f fd cc pp)
include T
theorem Facts.kb_gk13 : L2.KBinds K (fd 43) [("league" : Str), ("couple" : Str)] [("couple" : Str), ("league" : Str)] gk13 gk13 := by
  refine ⟨fun s us ws _ hl => ?_, fun r rz => gk13_rel r rz⟩
  obtain ⟨_, _, _, _, _, _, _, _, _, ez, _, _⟩ := T.d_sure_people.F.ex
  rw [ez]
  rcases us with _ | ⟨zz, zs⟩ <;> rcases ws with _ | ⟨b0, _ | ⟨b1, _ | ⟨zz, zs⟩⟩⟩ <;> first | exact nomatch (show (0 : Nat) = 2 from hl) | exact BindsTo.of_eq rfl
end
theorem gk14_rel {α β : Type} {R : α → β → Prop} {as cs : List α} {bs ds : List β} (r : Paired R as bs) (s : Paired R cs ds) : Paired R (gk14 as cs) (gk14 bs ds) := by
  rcases r with _ | ⟨zz, zs⟩ <;> rcases s with _ | ⟨b0, _ | ⟨b1, _ | ⟨zz, zs⟩⟩⟩ <;> repeat (first | exact Paired.nil | assumption | refine Paired.cons ?_ ?_)
section
variable {G : Gx} {P : Program} {w : World} {K : PySem.W.Frag} {mg : Str → Option Value} {f : Nat → Addr} {fd : Nat → FuncData} {cc pp : Nat → Addr} (T : Facts G P K mg f fd cc pp)
include T
theorem Facts.kb_gk14 : L2.KBinds K (fd 45) [("league" : Str), ("number" : Str)] [("number" : Str), ("league" : Str)] gk14 gk14 := by
  refine ⟨fun s us ws _ hl => ?_, fun r rz => gk14_rel r rz⟩
  obtain ⟨_, _, _, _, _, _, _, _, _, ez, _, _⟩ := T.d_league_at.F.ex
  rw [ez]
  rcases us with _ | ⟨zz, zs⟩ <;> rcases ws with _ | ⟨b0, _ | ⟨b1, _ | ⟨zz, zs⟩⟩⟩ <;> first | exact nomatch (show (0 : Nat) = 2 from hl) | exact BindsTo.of_eq rfl
end
theorem gk15_rel {α β : Type} {R : α → β → Prop} {as cs : List α} {bs ds : List β} (r : Paired R as bs) (s : Paired R cs ds) : Paired R (gk15 as cs) (gk15 bs ds) := by
  rcases r with _ | ⟨zz, zs⟩ <;> rcases s with _ | ⟨b0, _ | ⟨zz, zs⟩⟩ <;> repeat (first | exact Paired.nil | assumption | refine Paired.cons ?_ ?_)
section
variable {G : Gx} {P : Program} {w : World} {K : PySem.W.Frag} {mg : Str → Option Value} {f : Nat → Addr} {fd : Nat → FuncData} {cc pp : Nat → Addr} (T : Facts G P K mg f fd cc pp)
include T
theorem Facts.kb_gk15 : L2.KBinds K (fd 18) [("league" : Str)] [("league" : Str)] gk15 gk15 := by
  refine ⟨fun s us ws _ hl => ?_, fun r rz => gk15_rel r rz⟩
  obtain ⟨_, _, _, _, _, _, _, _, _, ez, _, _⟩ := T.d_league_number.F.ex
  rw [ez]
  rcases us with _ | ⟨zz, zs⟩ <;> rcases ws with _ | ⟨b0, _ | ⟨zz, zs⟩⟩ <;> first | exact nomatch (show (0 : Nat) = 1 from hl) | exact BindsTo.of_eq rfl
end
section
variable {G : Gx} {P : Program} {w : World} {K : PySem.W.Frag} {mg : Str → Option Value} {f : Nat → Addr} {fd : Nat → FuncData} {cc pp : Nat → Addr}
theorem Facts.f_is_whole (T : Facts G P K mg f fd cc pp) : FnG G P w K mg 1 (f 0) (fd 0) ["value"] (f_is_whole) := fn_okN (k := 0) (b := m_is_whole) 1 1 T.d_is_whole.F sc_is_whole (fun base cdv A outer s H E hgd hr tb =>
  pms_one (pms_ret (pm_and (pm_callB (cr_isX T.anc T.hK) (by rfl) T.z_isinstance bt_isi (pma_cons (pm_var (i := 0)) (pma_cons (pm_ty (n := .int) (by rfl) T.z_int bt_int) (pma_nil)))) (pm_one (pm_not (pm_callB (cr_isX T.anc T.hK) (by rfl) T.z_isinstance bt_isi (pma_cons (pm_var (i := 0)) (pma_cons (pm_ty (n := .bool) (by rfl) T.z_bool bt_bool) (pma_nil))))))))) rfl
theorem Facts.f_is_between (T : Facts G P K mg f fd cc pp) : FnG G P w K mg 2 (f 1) (fd 1) ["value", "low", "high"] (f_is_between) := fn_okN (k := 1) (b := m_is_between) 3 3 T.d_is_between.F sc_is_between (fun base cdv A outer s H E hgd hr tb =>
  pms_cons (pms_if (pmt_not (pmt_val (pm_call (T.f_is_whole.mono (by decide)) hgd hr tb (by rfl) T.d_is_whole.m T.d_is_whole.F.kp T.b_is_whole (L2.takes_of rfl rfl rfl rfl) (pma_cons (pm_var (i := 0)) (pma_nil))))) (pms_one (pms_ret (pm_bl))) (pms_nil))
  (pms_one (pms_ret (pm_and (pm_or (pm_cmp or_is (pm_var (i := 1)) (pm_non)) (pm_one (pm_cmp or_ge (pm_var (i := 0)) (pm_var (i := 1))))) (pm_one (pm_or (pm_cmp or_is (pm_var (i := 2)) (pm_non)) (pm_one (pm_cmp or_le (pm_var (i := 0)) (pm_var (i := 2)))))))))) rfl
theorem Facts.f_are_ties (T : Facts G P K mg f fd cc pp) : FnG G P w K mg 3 (f 2) (fd 2) ["kinds", "size", "value"] (f_are_ties) := fn_okN (k := 2) (b := m_are_ties) 4 3 T.d_are_ties.F sc_are_ties (fun base cdv A outer s H E hgd hr tb =>
  pms_cons (pms_if ((pmw_or (pmt_not (pmt_val (pm_callB (cr_isX T.anc T.hK) (by rfl) T.z_isinstance bt_isi (pma_cons (pm_var (i := 2)) (pma_cons (pm_ty (n := .list) (by rfl) T.z_list bt_list) (pma_nil)))))) (pmw_or1 (pmt_cmp (or_ne hr) (pm_callB (cr_len2 T.hK) (by rfl) T.z_len bt_len (pma_cons (pm_var (i := 2)) (pma_nil))) (pm_var (i := 1))))).pt) (pms_one (pms_ret (pm_bl))) (pms_nil))
  (pms_one (pms_ret (pm_cmp (or_eq hr) (pm_lc (t := .nm 3) [("item", 3)] rfl sc_are_ties.nd (pmi_seq (pm_var (i := 2))) (L2.blkOk_by (by kernel_rfl)) (fun _ _ _ _ _ => pmg_nm (i := 3) sc_are_ties.nd) (fun _ _ _ _ _ => pmts_one (pmt_not (pmt_val (pm_call (T.f_is_between.mono (by decide)) hgd hr tb (by rfl) T.d_is_between.m T.d_is_between.F.kp T.b_is_between takes0 (pma_cons (pm_var (i := 3)) (pma_cons (pm_int) (pma_cons (pm_op2 or_sub (pm_var (i := 0)) (pm_int)) (pma_nil)))))))) (fun _ _ _ _ _ => pm_var (i := 3))) (pm_lst (pma_nil)))))) rfl
theorem Facts.f_is_company_value (T : Facts G P K mg f fd cc pp) : FnG G P w K mg 4 (f 3) (fd 3) ["kinds", "value"] (f_is_company_value) := fn_okN (k := 3) (b := m_is_company_value) 4 2 T.d_is_company_value.F sc_is_company_value (fun base cdv A outer s H E hgd hr tb =>
  pms_cons (pms_if ((pmw_or (pmt_not (pmt_val (pm_callB (cr_isX T.anc T.hK) (by rfl) T.z_isinstance bt_isi (pma_cons (pm_var (i := 1)) (pma_cons (pm_ty (n := .list) (by rfl) T.z_list bt_list) (pma_nil)))))) (pmw_or1 (pmt_not (pmt_chain or_le or_le (pm_int) (pm_callB (cr_len2 T.hK) (by rfl) T.z_len bt_len (pma_cons (pm_var (i := 1)) (pma_nil))) (pm_globE (by rfl) T.g_MOST_PEOPLE))))).pt) (pms_one (pms_ret (pm_bl))) (pms_nil))
  (pms_one (pms_ret (pm_cmp (or_eq hr) (pm_lc (t := .tp [2, 3]) [("person", 2), ("row", 3)] rfl sc_is_company_value.nd (pmi_enu (by rfl) T.z_enumerate (pm_var (i := 1))) (L2.blkOk_by (by kernel_rfl)) (fun _ _ _ _ _ => pmg_tp rfl (pmgs_cons (i := 2) sc_is_company_value.nd (pmgs_cons (i := 3) sc_is_company_value.nd (pmgs_nil)))) (fun _ _ _ _ _ => pmts_one (pmt_not (pmt_val (pm_call (T.f_are_ties.mono (by decide)) hgd hr tb (by rfl) T.d_are_ties.m T.d_are_ties.F.kp T.b_are_ties takes0 (pma_cons (pm_var (i := 0)) (pma_cons (pm_var (i := 2)) (pma_cons (pm_var (i := 3)) (pma_nil)))))))) (fun _ _ _ _ _ => pm_var (i := 2))) (pm_lst (pma_nil)))))) rfl
theorem Facts.f_is_league_value (T : Facts G P K mg f fd cc pp) : FnG G P w K mg 5 (f 4) (fd 4) ["value"] (f_is_league_value) := fn_okN (k := 4) (b := m_is_league_value) 1 1 T.d_is_league_value.F sc_is_league_value (fun base cdv A outer s H E hgd hr tb =>
  pms_one (pms_ret (pm_call (T.f_is_company_value.mono (by decide)) hgd hr tb (by rfl) T.d_is_company_value.m T.d_is_company_value.F.kp T.b_is_company_value (L2.takes_of rfl rfl rfl rfl) (pma_cons (pm_int) (pma_cons (pm_var (i := 0)) (pma_nil)))))) rfl
theorem Facts.f_check_league (T : Facts G P K mg f fd cc pp) : FnG G P w K mg 6 (f 5) (fd 5) ["league"] (f_check_league) := fn_okN (k := 5) (b := m_check_league) 1 1 T.d_check_league.F sc_check_league (fun base cdv A outer s H E hgd hr tb =>
  pms_one (pms_if (pmt_not (pmt_val (pm_call (T.f_is_league_value.mono (by decide)) hgd hr tb (by rfl) T.d_is_league_value.m T.d_is_league_value.F.kp T.b_is_league_value (L2.takes_of rfl rfl rfl rfl) (pma_cons (pm_var (i := 0)) (pma_nil))))) (pms_one (raiseE (c := 4) T.t_InvalidLeague T.z_super (T.cls 4 (by decide)) rfl (L2.takes_of rfl rfl rfl rfl) hr (by rfl) T.c_InvalidLeague (pm_var (i := 0)))) (pms_nil))) rfl
theorem Facts.f_won (T : Facts G P K mg f fd cc pp) : FnG G P w K mg 1 (f 6) (fd 6) ["league", "one", "other"] (f_won) := fn_okN (k := 0) (b := m_won) 3 3 T.d_won.F sc_won (fun base cdv A outer s H E hgd hr tb =>
  pms_one (pms_ret (pm_if (pmt_cmp or_gt (pm_var (i := 1)) (pm_var (i := 2))) (pm_cmp (or_eq hr) (pm_ix (pm_ix (pm_var (i := 0)) (pm_var (i := 1)) T.hK) (pm_var (i := 2)) T.hK) (pm_int)) (pm_cmp (or_eq hr) (pm_ix (pm_ix (pm_var (i := 0)) (pm_var (i := 2)) T.hK) (pm_var (i := 1)) T.hK) (pm_int))))) rfl
theorem Facts.f_are_alike (T : Facts G P K mg f fd cc pp) : FnG G P w K mg 2 (f 7) (fd 7) ["league", "one", "other"] (f_are_alike) := fn_okN (k := 1) (b := m_are_alike) 5 3 T.d_are_alike.F sc_are_alike (fun base cdv A outer s H E hgd hr tb =>
  pms_cons (pms_setLc (i := 3) (t := .nm 4) [("person", 4)] rfl sc_are_alike.nd (pmi_rng1 (by rfl) T.z_range (pm_callB (cr_len2 T.hK) (by rfl) T.z_len bt_len (pma_cons (pm_var (i := 0)) (pma_nil)))) (L2.blkOk_by (by kernel_rfl)) (fun _ _ _ _ _ => pmg_nm (i := 4) sc_are_alike.nd) (fun _ _ _ _ _ => pmts_one (pmt_cmp (or_notInS hr) (pm_var (i := 4)) (pm_tup (pma_cons (pm_var (i := 1)) (pma_cons (pm_var (i := 2)) (pma_nil)))))) (fun _ _ _ _ _ => pm_var (i := 4)) (L2.sw_true rfl rfl rfl rfl))
  (pms_one (pms_ret (pm_cmp (or_eq hr) (pm_lc (t := .nm 4) [("person", 4)] rfl sc_are_alike.nd (pmi_seq (pm_var (i := 3))) (L2.blkOk_by (by kernel_rfl)) (fun _ _ _ _ _ => pmg_nm (i := 4) sc_are_alike.nd) (fun _ _ _ _ _ => pmts_one (pmt_cmp (or_ne hr) (pm_call (T.f_won.mono (by decide)) hgd hr tb (by rfl) T.d_won.m T.d_won.F.kp T.b_won takes0 (pma_cons (pm_var (i := 0)) (pma_cons (pm_var (i := 4)) (pma_cons (pm_var (i := 1)) (pma_nil))))) (pm_call (T.f_won.mono (by decide)) hgd hr tb (by rfl) T.d_won.m T.d_won.F.kp T.b_won takes0 (pma_cons (pm_var (i := 0)) (pma_cons (pm_var (i := 4)) (pma_cons (pm_var (i := 2)) (pma_nil))))))) (fun _ _ _ _ _ => pm_var (i := 4))) (pm_lst (pma_nil)))))) rfl
theorem Facts.f_alike_in (T : Facts G P K mg f fd cc pp) : FnG G P w K mg 3 (f 8) (fd 8) ["league"] (f_alike_in) := fn_okN (k := 2) (b := m_alike_in) 4 1 T.d_alike_in.F sc_alike_in (fun base cdv A outer s H E hgd hr tb =>
  pms_cons (pms_set (i := 1) sc_alike_in.nd (pm_lst (pma_nil)))
  (pms_cons (pms_for (t := .nm 2) (L2.passes_of rfl) rfl (pmi_rng1 (by rfl) T.z_range (pm_callB (cr_len2 T.hK) (by rfl) T.z_len bt_len (pma_cons (pm_var (i := 0)) (pma_nil)))) (pmg_nm (i := 2) sc_alike_in.nd) (pms_one (pms_set (i := 1) sc_alike_in.nd (pm_op2 or_add (pm_var (i := 1)) (pm_lc (t := .nm 3) [("other", 3)] rfl sc_alike_in.nd (pmi_rng2 (by rfl) T.z_range (pm_op2 or_add (pm_var (i := 2)) (pm_int)) (pm_callB (cr_len2 T.hK) (by rfl) T.z_len bt_len (pma_cons (pm_var (i := 0)) (pma_nil)))) (L2.blkOk_by (by kernel_rfl)) (fun _ _ _ _ _ => pmg_nm (i := 3) sc_alike_in.nd) (fun _ _ _ _ _ => pmts_one (pmt_val (pm_call (T.f_are_alike.mono (by decide)) hgd hr tb (by rfl) T.d_are_alike.m T.d_are_alike.F.kp T.b_are_alike takes0 (pma_cons (pm_var (i := 0)) (pma_cons (pm_var (i := 2)) (pma_cons (pm_var (i := 3)) (pma_nil))))))) (fun _ _ _ _ _ => pm_tup (pma_cons (pm_var (i := 2)) (pma_cons (pm_var (i := 3)) (pma_nil)))))))))
  (pms_one (pms_ret (pm_var (i := 1)))))) rfl
theorem Facts.f_runs_of (T : Facts G P K mg f fd cc pp) : FnG G P w K mg 4 (f 9) (fd 9) ["league"] (f_runs_of) := fn_okC (k := 3) (b := m_runs_of) 10 1 T.e_runs_of.F sc_runs_of (fun base A outer s H E hgd hr tb =>
  pms_cons (pms_setLc (i := 1) (t := .nm 2) [("person", 2)] rfl sc_runs_of.nd (pmi_rng1 (by rfl) T.z_range (pm_callB (cr_len2 T.hK) (by rfl) T.z_len bt_len (pma_cons (pm_var (i := 0)) (pma_nil)))) (L2.blkOk_by (by kernel_rfl)) (fun _ _ _ _ _ => pmg_nm (i := 2) sc_runs_of.nd) (fun _ _ _ _ _ => pmts_nil) (fun _ _ _ _ _ => pm_lst (pma_cons (pm_var (i := 2)) (pma_nil))) (L2.sw_true rfl rfl rfl rfl))
  (pms_cons (pms_for (t := .tp [3, 4]) (L2.passes_of rfl) rfl (pmi_seq (pm_call (T.f_alike_in.mono (by decide)) hgd hr tb (by rfl) T.d_alike_in.m T.d_alike_in.F.kp T.b_alike_in (L2.takes_of rfl rfl rfl rfl) (pma_cons (pm_var (i := 0)) (pma_nil)))) (pmg_tp rfl (pmgs_cons (i := 3) sc_runs_of.nd (pmgs_cons (i := 4) sc_runs_of.nd (pmgs_nil)))) (pms_cons (pms_set (i := 5) sc_runs_of.nd (pm_lc (t := .nm 6) [("lot", 6)] rfl sc_runs_of.nd (pmi_seq (pm_var (i := 1))) (L2.blkOk_by (by kernel_rfl)) (fun _ _ _ _ _ => pmg_nm (i := 6) sc_runs_of.nd) (fun _ _ _ _ _ => pmts_one ((pmw_or (pmt_cmp (or_inS hr) (pm_var (i := 3)) (pm_var (i := 6))) (pmw_or1 (pmt_cmp (or_inS hr) (pm_var (i := 4)) (pm_var (i := 6))))).pt)) (fun _ _ _ _ _ => pm_var (i := 6))))
  (pms_one (pms_set (i := 1) sc_runs_of.nd (pm_op2 or_add (pm_lc (t := .nm 6) [("lot", 6)] rfl sc_runs_of.nd (pmi_seq (pm_var (i := 1))) (L2.blkOk_by (by kernel_rfl)) (fun _ _ _ _ _ => pmg_nm (i := 6) sc_runs_of.nd) (fun _ _ _ _ _ => pmts_one (pmt_cmp (or_notInS hr) (pm_var (i := 6)) (pm_var (i := 5)))) (fun _ _ _ _ _ => pm_var (i := 6))) (pm_lst (pma_cons (pm_callB (cr_sortD2 hr T.hK) (by rfl) T.z_sorted bt_sorted (pma_cons (pm_lc2 (t := .nm 6) (t1 := .nm 2) [("lot", 6), ("person", 2)] [2] rfl sc_runs_of.nd (pmi_seq (pm_var (i := 5))) (L2.blkOk_by (by kernel_rfl)) (fun _ _ _ _ _ => pmg_nm (i := 6) sc_runs_of.nd) (fun _ _ _ _ _ => pmts_nil) (fun _ _ _ _ _ => pmi_seq (pm_var (i := 6))) (fun _ _ _ _ _ => pmg_nm (i := 2) sc_runs_of.nd) (fun _ _ _ _ _ => pmts_nil) (fun _ _ _ _ _ => pm_var (i := 2))) (pma_nil))) (pma_nil))))))))
  (pms_cons (pms_set (i := 7) sc_runs_of.nd (pm_lst (pma_nil)))
  (pms_cons (pms_for (t := .nm 6) (L2.passes_of rfl) rfl (pmi_seq (pm_callB (cr_sortD2 hr T.hK) (by rfl) T.z_sorted bt_sorted (pma_cons (pm_lc (t := .nm 6) [("lot", 6)] rfl sc_runs_of.nd (pmi_seq (pm_var (i := 1))) (L2.blkOk_by (by kernel_rfl)) (fun _ _ _ _ _ => pmg_nm (i := 6) sc_runs_of.nd) (fun _ _ _ _ _ => pmts_one (pmt_cmp or_gt (pm_callB (cr_len2 T.hK) (by rfl) T.z_len bt_len (pma_cons (pm_var (i := 6)) (pma_nil))) (pm_int))) (fun _ _ _ _ _ => pm_var (i := 6))) (pma_nil)))) (pmg_nm (i := 6) sc_runs_of.nd) (pms_cons (pms_set (i := 8) sc_runs_of.nd (pm_dc (t := .nm 2) [("person", 2)] rfl sc_runs_of.nd (pmi_seq (pm_var (i := 6))) (L2.blkOk_by (by kernel_rfl)) (fun _ _ _ _ _ => pmg_nm (i := 2) sc_runs_of.nd) (fun _ _ _ _ _ => pmts_nil) (fun _ _ _ _ _ => pm_var (i := 2)) (fun _ _ _ _ _ => pm_callB (cr_len2 T.hK) (by rfl) T.z_len bt_len (pma_cons (pm_lc (t := .nm 9) [("mate", 9)] rfl sc_runs_of.nd (pmi_seq (pm_var (i := 6))) (L2.blkOk_by (by kernel_rfl)) (fun _ _ _ _ _ => pmg_nm (i := 9) sc_runs_of.nd) (fun _ _ _ _ _ => pmts_one ((pmw_and (pmt_cmp (or_ne hr) (pm_var (i := 9)) (pm_var (i := 2))) (pmw_and1 (pmt_val (pm_call (T.f_won.mono (by decide)) hgd hr tb (by rfl) T.d_won.m T.d_won.F.kp T.b_won takes0 (pma_cons (pm_var (i := 0)) (pma_cons (pm_var (i := 2)) (pma_cons (pm_var (i := 9)) (pma_nil)))))))).pt)) (fun _ _ _ _ _ => pm_var (i := 9))) (pma_nil)))))
  (pms_one (pms_expr (pm_append (pm_var (i := 7)) (pm_sortKeyC (i := 8) (d := "wins") (by exact ⟨⟨_, _, _, _, _, _, rfl⟩, rfl, rfl, rfl, by decide, rfl, rfl, fun _ _ _ _ _ _ => rfl, by decide, by decide, by decide⟩) hr T.hK (tb _ (by rw [T.cs]; exact List.mem_of_getElem? (i := 2) rfl)) (by rw [T.tt]; exact List.mem_of_getElem? (i := 2) rfl) T.tu_runs_of (by rfl) T.z_sorted (pm_var (i := 6)) (cap := by show capB (defScope st_runs_of) _ = true; decide +kernel)))))))
  (pms_one (pms_ret (pm_var (i := 7)))))))) rfl
theorem Facts.f_runs (T : Facts G P K mg f fd cc pp) : FnG G P w K mg 7 (f 10) (fd 10) ["league"] (f_runs) := fn_okN (k := 6) (b := m_runs) 1 1 T.d_runs.F sc_runs (fun base cdv A outer s H E hgd hr tb =>
  pms_cons (pms_expr (pm_call (T.f_check_league.mono (by decide)) hgd hr tb (by rfl) T.d_check_league.m T.d_check_league.F.kp T.b_check_league (L2.takes_of rfl rfl rfl rfl) (pma_cons (pm_var (i := 0)) (pma_nil))))
  (pms_one (pms_ret (pm_call (T.f_runs_of.mono (by decide)) hgd hr tb (by rfl) T.d_runs_of.m T.d_runs_of.F.kp T.b_runs_of (L2.takes_of rfl rfl rfl rfl) (pma_cons (pm_var (i := 0)) (pma_nil)))))) rfl
theorem Facts.f_factorial_of (T : Facts G P K mg f fd cc pp) : FnG G P w K mg 1 (f 11) (fd 11) ["number"] (f_factorial_of) := fn_okN (k := 0) (b := m_factorial_of) 3 1 T.d_factorial_of.F sc_factorial_of (fun base cdv A outer s H E hgd hr tb =>
  pms_cons (pms_set (i := 1) sc_factorial_of.nd (pm_int))
  (pms_cons (pms_for (t := .nm 2) (L2.passes_of rfl) rfl (pmi_rng2 (by rfl) T.z_range (pm_int) (pm_op2 or_add (pm_var (i := 0)) (pm_int))) (pmg_nm (i := 2) sc_factorial_of.nd) (pms_one (pms_set (i := 1) sc_factorial_of.nd (pm_op2 or_mulS (pm_var (i := 1)) (pm_var (i := 2))))))
  (pms_one (pms_ret (pm_var (i := 1)))))) rfl
theorem Facts.f_size_of (T : Facts G P K mg f fd cc pp) : FnG G P w K mg 5 (f 12) (fd 12) ["league"] (f_size_of) := fn_okN (k := 4) (b := m_size_of) 3 1 T.d_size_of.F sc_size_of (fun base cdv A outer s H E hgd hr tb =>
  pms_cons (pms_set (i := 1) sc_size_of.nd (pm_int))
  (pms_cons (pms_for (t := .nm 2) (L2.passes_of rfl) rfl (pmi_seq (pm_call (T.f_runs_of.mono (by decide)) hgd hr tb (by rfl) T.d_runs_of.m T.d_runs_of.F.kp T.b_runs_of (L2.takes_of rfl rfl rfl rfl) (pma_cons (pm_var (i := 0)) (pma_nil)))) (pmg_nm (i := 2) sc_size_of.nd) (pms_one (pms_set (i := 1) sc_size_of.nd (pm_op2 or_mulS (pm_var (i := 1)) (pm_call (T.f_factorial_of.mono (by decide)) hgd hr tb (by rfl) T.d_factorial_of.m T.d_factorial_of.F.kp T.b_factorial_of (L2.takes_of rfl rfl rfl rfl) (pma_cons (pm_callB (cr_len2 T.hK) (by rfl) T.z_len bt_len (pma_cons (pm_var (i := 2)) (pma_nil))) (pma_nil)))))))
  (pms_one (pms_ret (pm_var (i := 1)))))) rfl
theorem Facts.f_league_class_size (T : Facts G P K mg f fd cc pp) : FnG G P w K mg 7 (f 13) (fd 13) ["league"] (f_league_class_size) := fn_okN (k := 6) (b := m_league_class_size) 1 1 T.d_league_class_size.F sc_league_class_size (fun base cdv A outer s H E hgd hr tb =>
  pms_cons (pms_expr (pm_call (T.f_check_league.mono (by decide)) hgd hr tb (by rfl) T.d_check_league.m T.d_check_league.F.kp T.b_check_league (L2.takes_of rfl rfl rfl rfl) (pma_cons (pm_var (i := 0)) (pma_nil))))
  (pms_one (pms_ret (pm_call (T.f_size_of.mono (by decide)) hgd hr tb (by rfl) T.d_size_of.m T.d_size_of.F.kp T.b_size_of (L2.takes_of rfl rfl rfl rfl) (pma_cons (pm_var (i := 0)) (pma_nil)))))) rfl
theorem Facts.f_product_of (T : Facts G P K mg f fd cc pp) : FnG G P w K mg 1 (f 14) (fd 14) ["one", "other"] (f_product_of) := fn_okN (k := 0) (b := m_product_of) 7 2 T.d_product_of.F sc_product_of (fun base cdv A outer s H E hgd hr tb =>
  pms_cons (pms_set (i := 2) sc_product_of.nd (pm_op2 or_mulS (pm_lst (pma_cons (pm_int) (pma_nil))) (pm_op2 or_sub (pm_op2 or_add (pm_callB (cr_len2 T.hK) (by rfl) T.z_len bt_len (pma_cons (pm_var (i := 0)) (pma_nil))) (pm_callB (cr_len2 T.hK) (by rfl) T.z_len bt_len (pma_cons (pm_var (i := 1)) (pma_nil)))) (pm_int))))
  (pms_cons (pms_for (t := .tp [3, 4]) (L2.passes_of rfl) rfl (pmi_enu (by rfl) T.z_enumerate (pm_var (i := 0))) (pmg_tp rfl (pmgs_cons (i := 3) sc_product_of.nd (pmgs_cons (i := 4) sc_product_of.nd (pmgs_nil)))) (pms_one (pms_for (t := .tp [5, 6]) (L2.passes_of rfl) rfl (pmi_enu (by rfl) T.z_enumerate (pm_var (i := 1))) (pmg_tp rfl (pmgs_cons (i := 5) sc_product_of.nd (pmgs_cons (i := 6) sc_product_of.nd (pmgs_nil)))) (pms_one (pms_sub ps_setIx (pm_op2 or_add (pm_ix (pm_var (i := 2)) (pm_op2 or_add (pm_var (i := 3)) (pm_var (i := 5))) T.hK) (pm_op2 or_mulS (pm_var (i := 4)) (pm_var (i := 6)))) (pm_var (i := 2)) (pm_op2 or_add (pm_var (i := 3)) (pm_var (i := 5))))))))
  (pms_one (pms_ret (pm_var (i := 2)))))) rfl
theorem Facts.f_leagues_by_turns (T : Facts G P K mg f fd cc pp) : FnG G P w K mg 7 (f 15) (fd 15) ["league"] (f_leagues_by_turns) := fn_okN (k := 6) (b := m_leagues_by_turns) 4 1 T.d_leagues_by_turns.F sc_leagues_by_turns (fun base cdv A outer s H E hgd hr tb =>
  pms_cons (pms_expr (pm_call (T.f_check_league.mono (by decide)) hgd hr tb (by rfl) T.d_check_league.m T.d_check_league.F.kp T.b_check_league (L2.takes_of rfl rfl rfl rfl) (pma_cons (pm_var (i := 0)) (pma_nil))))
  (pms_cons (pms_set (i := 1) sc_leagues_by_turns.nd (pm_lst (pma_cons (pm_int) (pma_nil))))
  (pms_cons (pms_for (t := .nm 2) (L2.passes_of rfl) rfl (pmi_seq (pm_call (T.f_runs_of.mono (by decide)) hgd hr tb (by rfl) T.d_runs_of.m T.d_runs_of.F.kp T.b_runs_of (L2.takes_of rfl rfl rfl rfl) (pma_cons (pm_var (i := 0)) (pma_nil)))) (pmg_nm (i := 2) sc_leagues_by_turns.nd) (pms_one (pms_for (t := .nm 3) (L2.passes_of rfl) rfl (pmi_rng2 (by rfl) T.z_range (pm_int) (pm_op2 or_add (pm_callB (cr_len2 T.hK) (by rfl) T.z_len bt_len (pma_cons (pm_var (i := 2)) (pma_nil))) (pm_int))) (pmg_nm (i := 3) sc_leagues_by_turns.nd) (pms_one (pms_set (i := 1) sc_leagues_by_turns.nd (pm_call (T.f_product_of.mono (by decide)) hgd hr tb (by rfl) T.d_product_of.m T.d_product_of.F.kp T.b_product_of (L2.takes_of rfl rfl rfl rfl) (pma_cons (pm_var (i := 1)) (pma_cons (pm_op2 or_mulS (pm_lst (pma_cons (pm_int) (pma_nil))) (pm_var (i := 3))) (pma_nil)))))))))
  (pms_one (pms_ret (pm_var (i := 1))))))) rfl
theorem Facts.f_steps_of (T : Facts G P K mg f fd cc pp) : FnG G P w K mg 5 (f 16) (fd 16) ["league"] (f_steps_of) := fn_okN (k := 4) (b := m_steps_of) 5 1 T.d_steps_of.F sc_steps_of (fun base cdv A outer s H E hgd hr tb =>
  pms_cons (pms_set (i := 1) sc_steps_of.nd (pm_lst (pma_nil)))
  (pms_cons (pms_for (t := .nm 2) (L2.passes_of rfl) rfl (pmi_seq (pm_call (T.f_runs_of.mono (by decide)) hgd hr tb (by rfl) T.d_runs_of.m T.d_runs_of.F.kp T.b_runs_of (L2.takes_of rfl rfl rfl rfl) (pma_cons (pm_var (i := 0)) (pma_nil)))) (pmg_nm (i := 2) sc_steps_of.nd) (pms_one (pms_for (t := .nm 3) (L2.passes_of rfl) rfl (pmi_seq (pm_var (i := 2))) (pmg_nm (i := 3) sc_steps_of.nd) (pms_one (pms_if (pmt_cmp (or_ne hr) (pm_var (i := 3)) (pm_callB (cr_minL rfl T.hK) (by rfl) T.z_min bt_min (pma_cons (pm_var (i := 2)) (pma_nil)))) (pms_one (pms_expr (pm_append (pm_var (i := 1)) (pm_tup (pma_cons (pm_var (i := 3)) (pma_cons (pm_lc (t := .nm 4) [("mate", 4)] rfl sc_steps_of.nd (pmi_seq (pm_callB (cr_sortD2 hr T.hK) (by rfl) T.z_sorted bt_sorted (pma_cons (pm_var (i := 2)) (pma_nil)))) (L2.blkOk_by (by kernel_rfl)) (fun _ _ _ _ _ => pmg_nm (i := 4) sc_steps_of.nd) (fun _ _ _ _ _ => pmts_one (pmt_cmp or_lt (pm_var (i := 4)) (pm_var (i := 3)))) (fun _ _ _ _ _ => pm_var (i := 4))) (pma_nil))))))) (pms_nil))))))
  (pms_one (pms_ret (pm_callB (cr_sortD2 hr T.hK) (by rfl) T.z_sorted bt_sorted (pma_cons (pm_var (i := 1)) (pma_nil))))))) rfl
theorem Facts.f_laid_rows (T : Facts G P K mg f fd cc pp) : FnG G P w K mg 1 (f 17) (fd 17) ["row", "person"] (f_laid_rows) := fn_okN (k := 0) (b := m_laid_rows) 7 2 T.d_laid_rows.F sc_laid_rows (fun base cdv A outer s H E hgd hr tb =>
  pms_cons (pms_set (i := 2) sc_laid_rows.nd (pm_lst (pma_nil)))
  (pms_cons (pms_for (t := .nm 3) (L2.passes_of rfl) rfl (pmi_rng1 (by rfl) T.z_range (pm_op2 or_add (pm_callB (cr_len2 T.hK) (by rfl) T.z_len bt_len (pma_cons (pm_var (i := 0)) (pma_nil))) (pm_int))) (pmg_nm (i := 3) sc_laid_rows.nd) (pms_cons (pms_setLc (i := 4) (t := .tp [5, 6]) [("at", 5), ("mate", 6)] rfl sc_laid_rows.nd (pmi_enu (by rfl) T.z_enumerate (pm_var (i := 0))) (L2.blkOk_by (by kernel_rfl)) (fun _ _ _ _ _ => pmg_tp rfl (pmgs_cons (i := 5) sc_laid_rows.nd (pmgs_cons (i := 6) sc_laid_rows.nd (pmgs_nil)))) (fun _ _ _ _ _ => pmts_nil) (fun _ _ _ _ _ => pm_tup (pma_cons (pm_var (i := 6)) (pma_cons (pm_if (pmt_cmp or_ge (pm_var (i := 5)) (pm_var (i := 3))) (pm_int) (pm_int)) (pma_nil)))) (L2.sw_true rfl rfl rfl rfl))
  (pms_one (pms_expr (pm_append (pm_var (i := 2)) (pm_tup (pma_cons (pm_callB (cr_sortD2 hr T.hK) (by rfl) T.z_sorted bt_sorted (pma_cons (pm_var (i := 4)) (pma_nil))) (pma_cons (pm_var (i := 3)) (pma_nil)))))))))
  (pms_one (pms_ret (pm_callB (cr_sortD2 hr T.hK) (by rfl) T.z_sorted bt_sorted (pma_cons (pm_var (i := 2)) (pma_nil))))))) rfl
theorem Facts.f_league_number (T : Facts G P K mg f fd cc pp) : FnG G P w K mg 7 (f 18) (fd 18) ["league"] (f_league_number) := fn_okN (k := 6) (b := m_league_number) 10 1 T.d_league_number.F sc_league_number (fun base cdv A outer s H E hgd hr tb =>
  pms_cons (pms_expr (pm_call (T.f_check_league.mono (by decide)) hgd hr tb (by rfl) T.d_check_league.m T.d_check_league.F.kp T.b_check_league (L2.takes_of rfl rfl rfl rfl) (pma_cons (pm_var (i := 0)) (pma_nil))))
  (pms_cons (pms_par (i := 1) (j := 2) rfl sc_league_number.nd (pm_int) (pm_dict0))
  (pms_cons (pms_for (t := .tp [3, 4]) (L2.passes_of rfl) rfl (pmi_seq (pm_call (T.f_steps_of.mono (by decide)) hgd hr tb (by rfl) T.d_steps_of.m T.d_steps_of.F.kp T.b_steps_of (L2.takes_of rfl rfl rfl rfl) (pma_cons (pm_var (i := 0)) (pma_nil)))) (pmg_tp rfl (pmgs_cons (i := 3) sc_league_number.nd (pmgs_cons (i := 4) sc_league_number.nd (pmgs_nil)))) (pms_cons (pms_set (i := 5) sc_league_number.nd (pm_diget hr (pm_var (i := 2)) (pm_ix (pm_var (i := 4)) (pm_int) T.hK) (pm_lst (pma_cons (pm_ix (pm_var (i := 4)) (pm_int) T.hK) (pma_nil))) (by exact ⟨rfl, rfl, rfl, rfl⟩)))
  (pms_cons (pms_set (i := 6) sc_league_number.nd (pm_callB (cr_len2 T.hK) (by rfl) T.z_len bt_len (pma_cons (pm_lc (t := .nm 7) [("mate", 7)] rfl sc_league_number.nd (pmi_seq (pm_var (i := 5))) (L2.blkOk_by (by kernel_rfl)) (fun _ _ _ _ _ => pmg_nm (i := 7) sc_league_number.nd) (fun _ _ _ _ _ => pmts_one (pmt_val (pm_call (T.f_won.mono (by decide)) hgd hr tb (by rfl) T.d_won.m T.d_won.F.kp T.b_won takes0 (pma_cons (pm_var (i := 0)) (pma_cons (pm_var (i := 7)) (pma_cons (pm_var (i := 3)) (pma_nil))))))) (fun _ _ _ _ _ => pm_var (i := 7))) (pma_nil))))
  (pms_cons (pms_set (i := 1) sc_league_number.nd (pm_op2 or_add (pm_op2 or_mulS (pm_var (i := 1)) (pm_op2 or_add (pm_callB (cr_len2 T.hK) (by rfl) T.z_len bt_len (pma_cons (pm_var (i := 4)) (pma_nil))) (pm_int))) (pm_index (pm_lc (t := .tp [8, 9]) [("_", 8), ("told", 9)] rfl sc_league_number.nd (pmi_seq (pm_call (T.f_laid_rows.mono (by decide)) hgd hr tb (by rfl) T.d_laid_rows.m T.d_laid_rows.F.kp T.b_laid_rows (L2.takes_of rfl rfl rfl rfl) (pma_cons (pm_var (i := 5)) (pma_cons (pm_var (i := 3)) (pma_nil))))) (L2.blkOk_by (by kernel_rfl)) (fun _ _ _ _ _ => pmg_tp rfl (pmgs_cons (i := 8) sc_league_number.nd (pmgs_cons (i := 9) sc_league_number.nd (pmgs_nil)))) (fun _ _ _ _ _ => pmts_nil) (fun _ _ _ _ _ => pm_var (i := 9))) (pm_var (i := 6)) T.hK)))
  (pms_one (pms_sub (ps_setDI hr) (pm_op2 or_add (pm_op2 or_add (pm_cut (pm_var (i := 5)) (pmo_none) (pmo_some (pm_var (i := 6))) T.hK) (pm_lst (pma_cons (pm_var (i := 3)) (pma_nil)))) (pm_cut (pm_var (i := 5)) (pmo_some (pm_var (i := 6))) (pmo_none) T.hK)) (pm_var (i := 2)) (pm_ix (pm_var (i := 4)) (pm_int) T.hK)))))))
  (pms_one (pms_ret (pm_var (i := 1))))))) rfl
theorem Facts.f_check_two (T : Facts G P K mg f fd cc pp) : FnG G P w K mg 7 (f 19) (fd 19) ["one", "other"] (f_check_two) := fn_okN (k := 6) (b := m_check_two) 2 2 T.d_check_two.F sc_check_two (fun base cdv A outer s H E hgd hr tb =>
  pms_cons (pms_expr (pm_call (T.f_check_league.mono (by decide)) hgd hr tb (by rfl) T.d_check_league.m T.d_check_league.F.kp T.b_check_league (L2.takes_of rfl rfl rfl rfl) (pma_cons (pm_var (i := 0)) (pma_nil))))
  (pms_cons (pms_if (pmt_not (pmt_val (pm_call (T.f_is_league_value.mono (by decide)) hgd hr tb (by rfl) T.d_is_league_value.m T.d_is_league_value.F.kp T.b_is_league_value (L2.takes_of rfl rfl rfl rfl) (pma_cons (pm_var (i := 1)) (pma_nil))))) (pms_one (raiseE (c := 4) T.t_InvalidLeague T.z_super (T.cls 4 (by decide)) rfl (L2.takes_of rfl rfl rfl rfl) hr (by rfl) T.c_InvalidLeague (pm_var (i := 1)))) (pms_nil))
  (pms_one (pms_if (pmt_cmp (or_ne hr) (pm_callB (cr_len2 T.hK) (by rfl) T.z_len bt_len (pma_cons (pm_var (i := 0)) (pma_nil))) (pm_callB (cr_len2 T.hK) (by rfl) T.z_len bt_len (pma_cons (pm_var (i := 1)) (pma_nil)))) (pms_one (raiseE (c := 5) T.t_Unlike T.z_super (T.cls 5 (by decide)) rfl (L2.takes_of rfl rfl rfl rfl) hr (by rfl) T.c_Unlike (pm_var (i := 1)))) (pms_nil))))) rfl
theorem Facts.f_couples_of (T : Facts G P K mg f fd cc pp) : FnG G P w K mg 1 (f 20) (fd 20) ["company"] (f_couples_of) := fn_okN (k := 0) (b := m_couples_of) 4 1 T.d_couples_of.F sc_couples_of (fun base cdv A outer s H E hgd hr tb =>
  pms_cons (pms_set (i := 1) sc_couples_of.nd (pm_lst (pma_nil)))
  (pms_cons (pms_for (t := .nm 2) (L2.passes_of rfl) rfl (pmi_rng1 (by rfl) T.z_range (pm_callB (cr_len2 T.hK) (by rfl) T.z_len bt_len (pma_cons (pm_var (i := 0)) (pma_nil)))) (pmg_nm (i := 2) sc_couples_of.nd) (pms_one (pms_set (i := 1) sc_couples_of.nd (pm_op2 or_add (pm_var (i := 1)) (pm_lc (t := .nm 3) [("other", 3)] rfl sc_couples_of.nd (pmi_rng2 (by rfl) T.z_range (pm_op2 or_add (pm_var (i := 2)) (pm_int)) (pm_callB (cr_len2 T.hK) (by rfl) T.z_len bt_len (pma_cons (pm_var (i := 0)) (pma_nil)))) (L2.blkOk_by (by kernel_rfl)) (fun _ _ _ _ _ => pmg_nm (i := 3) sc_couples_of.nd) (fun _ _ _ _ _ => pmts_nil) (fun _ _ _ _ _ => pm_tup (pma_cons (pm_var (i := 2)) (pma_cons (pm_var (i := 3)) (pma_nil)))))))))
  (pms_one (pms_ret (pm_var (i := 1)))))) rfl
theorem Facts.f_unlike_results (T : Facts G P K mg f fd cc pp) : FnG G P w K mg 2 (f 21) (fd 21) ["one", "other"] (f_unlike_results) := fn_okN (k := 1) (b := m_unlike_results) 3 2 T.d_unlike_results.F sc_unlike_results (fun base cdv A outer s H E hgd hr tb =>
  pms_one (pms_ret (pm_lc (t := .nm 2) [("couple", 2)] rfl sc_unlike_results.nd (pmi_seq (pm_call (T.f_couples_of.mono (by decide)) hgd hr tb (by rfl) T.d_couples_of.m T.d_couples_of.F.kp T.b_couples_of (L2.takes_of rfl rfl rfl rfl) (pma_cons (pm_var (i := 0)) (pma_nil)))) (L2.blkOk_by (by kernel_rfl)) (fun _ _ _ _ _ => pmg_nm (i := 2) sc_unlike_results.nd) (fun _ _ _ _ _ => pmts_one (pmt_cmp (or_ne hr) (pm_ix (pm_ix (pm_var (i := 0)) (pm_ix (pm_var (i := 2)) (pm_int) T.hK) T.hK) (pm_ix (pm_var (i := 2)) (pm_int) T.hK) T.hK) (pm_ix (pm_ix (pm_var (i := 1)) (pm_ix (pm_var (i := 2)) (pm_int) T.hK) T.hK) (pm_ix (pm_var (i := 2)) (pm_int) T.hK) T.hK))) (fun _ _ _ _ _ => pm_var (i := 2))))) rfl
theorem Facts.f_are_joined_of (T : Facts G P K mg f fd cc pp) : FnG G P w K mg 5 (f 22) (fd 22) ["one", "other"] (f_are_joined_of) := fn_okN (k := 4) (b := m_are_joined_of) 7 2 T.d_are_joined_of.F sc_are_joined_of (fun base cdv A outer s H E hgd hr tb =>
  pms_cons (pms_setLc (i := 2) (t := .nm 3) [("row", 3)] rfl sc_are_joined_of.nd (pmi_seq (pm_call (T.f_runs_of.mono (by decide)) hgd hr tb (by rfl) T.d_runs_of.m T.d_runs_of.F.kp T.b_runs_of (L2.takes_of rfl rfl rfl rfl) (pma_cons (pm_var (i := 0)) (pma_nil)))) (L2.blkOk_by (by kernel_rfl)) (fun _ _ _ _ _ => pmg_nm (i := 3) sc_are_joined_of.nd) (fun _ _ _ _ _ => pmts_nil) (fun _ _ _ _ _ => pm_callB (cr_sortD2 hr T.hK) (by rfl) T.z_sorted bt_sorted (pma_cons (pm_var (i := 3)) (pma_nil))) (L2.sw_true rfl rfl rfl rfl))
  (pms_cons (pms_if (pmt_cmp (or_ne hr) (pm_var (i := 2)) (pm_lc (t := .nm 3) [("row", 3)] rfl sc_are_joined_of.nd (pmi_seq (pm_call (T.f_runs_of.mono (by decide)) hgd hr tb (by rfl) T.d_runs_of.m T.d_runs_of.F.kp T.b_runs_of (L2.takes_of rfl rfl rfl rfl) (pma_cons (pm_var (i := 1)) (pma_nil)))) (L2.blkOk_by (by kernel_rfl)) (fun _ _ _ _ _ => pmg_nm (i := 3) sc_are_joined_of.nd) (fun _ _ _ _ _ => pmts_nil) (fun _ _ _ _ _ => pm_callB (cr_sortD2 hr T.hK) (by rfl) T.z_sorted bt_sorted (pma_cons (pm_var (i := 3)) (pma_nil))))) (pms_one (pms_ret (pm_bl))) (pms_nil))
  (pms_cons (pms_for (t := .tp [4, 5]) (L2.passes_of rfl) rfl (pmi_seq (pm_call (T.f_unlike_results.mono (by decide)) hgd hr tb (by rfl) T.d_unlike_results.m T.d_unlike_results.F.kp T.b_unlike_results (L2.takes_of rfl rfl rfl rfl) (pma_cons (pm_var (i := 0)) (pma_cons (pm_var (i := 1)) (pma_nil))))) (pmg_tp rfl (pmgs_cons (i := 4) sc_are_joined_of.nd (pmgs_cons (i := 5) sc_are_joined_of.nd (pmgs_nil)))) (pms_one (pms_if (pmt_cmp (or_eq hr) (pm_lc (t := .nm 6) [("lot", 6)] rfl sc_are_joined_of.nd (pmi_seq (pm_var (i := 2))) (L2.blkOk_by (by kernel_rfl)) (fun _ _ _ _ _ => pmg_nm (i := 6) sc_are_joined_of.nd) (fun _ _ _ _ _ => pmts_one ((pmw_and (pmt_cmp (or_inS hr) (pm_var (i := 4)) (pm_var (i := 6))) (pmw_and1 (pmt_cmp (or_inS hr) (pm_var (i := 5)) (pm_var (i := 6))))).pt)) (fun _ _ _ _ _ => pm_var (i := 6))) (pm_lst (pma_nil))) (pms_one (pms_ret (pm_bl))) (pms_nil))))
  (pms_one (pms_ret (pm_bl)))))) rfl
theorem Facts.f_are_joined_leagues (T : Facts G P K mg f fd cc pp) : FnG G P w K mg 8 (f 23) (fd 23) ["one", "other"] (f_are_joined_leagues) := fn_okN (k := 7) (b := m_are_joined_leagues) 2 2 T.d_are_joined_leagues.F sc_are_joined_leagues (fun base cdv A outer s H E hgd hr tb =>
  pms_cons (pms_expr (pm_call (T.f_check_two.mono (by decide)) hgd hr tb (by rfl) T.d_check_two.m T.d_check_two.F.kp T.b_check_two (L2.takes_of rfl rfl rfl rfl) (pma_cons (pm_var (i := 0)) (pma_cons (pm_var (i := 1)) (pma_nil)))))
  (pms_one (pms_ret (pm_call (T.f_are_joined_of.mono (by decide)) hgd hr tb (by rfl) T.d_are_joined_of.m T.d_are_joined_of.F.kp T.b_are_joined_of (L2.takes_of rfl rfl rfl rfl) (pma_cons (pm_var (i := 0)) (pma_cons (pm_var (i := 1)) (pma_nil))))))) rfl
theorem Facts.f_lots_of (T : Facts G P K mg f fd cc pp) : FnG G P w K mg 1 (f 24) (fd 24) ["size", "many"] (f_lots_of) := fn_okN (k := 0) (b := m_lots_of) 6 2 T.d_lots_of.F sc_lots_of (fun base cdv A outer s H E hgd hr tb =>
  pms_cons (pms_set (i := 2) sc_lots_of.nd (pm_lst (pma_cons (pm_lst (pma_nil)) (pma_nil))))
  (pms_cons (pms_for (t := .nm 3) (L2.passes_of rfl) rfl (pmi_rng1 (by rfl) T.z_range (pm_var (i := 1))) (pmg_nm (i := 3) sc_lots_of.nd) (pms_one (pms_setLc2 (i := 2) (t := .nm 4) (t1 := .nm 5) [("lot", 4), ("person", 5)] [5] rfl sc_lots_of.nd (pmi_seq (pm_var (i := 2))) (L2.blkOk_by (by kernel_rfl)) (fun _ _ _ _ _ => pmg_nm (i := 4) sc_lots_of.nd) (fun _ _ _ _ _ => pmts_nil) (fun _ _ _ _ _ => pmi_rng2 (by rfl) T.z_range (pm_if (pmt_cmp (or_ne hr) (pm_var (i := 4)) (pm_lst (pma_nil))) (pm_op2 or_add (pm_ix (pm_var (i := 4)) (pm_un ur_neg (pm_int)) T.hK) (pm_int)) (pm_int)) (pm_var (i := 0))) (fun _ _ _ _ _ => pmg_nm (i := 5) sc_lots_of.nd) (fun _ _ _ _ _ => pmts_nil) (fun _ _ _ _ _ => pm_op2 or_add (pm_var (i := 4)) (pm_lst (pma_cons (pm_var (i := 5)) (pma_nil)))) (L2.sw_true rfl rfl rfl rfl))))
  (pms_one (pms_ret (pm_var (i := 2)))))) rfl
theorem Facts.f_tie_of (T : Facts G P K mg f fd cc pp) : FnG G P w K mg 1 (f 25) (fd 25) ["company", "one", "other"] (f_tie_of) := fn_okN (k := 0) (b := m_tie_of) 3 3 T.d_tie_of.F sc_tie_of (fun base cdv A outer s H E hgd hr tb =>
  pms_one (pms_ret (pm_ix (pm_ix (pm_var (i := 0)) (pm_callB (cr_max2 rfl) (by rfl) T.z_max bt_max (pma_cons (pm_var (i := 1)) (pma_cons (pm_var (i := 2)) (pma_nil)))) T.hK) (pm_callB (cr_min2 rfl) (by rfl) T.z_min bt_min (pma_cons (pm_var (i := 1)) (pma_cons (pm_var (i := 2)) (pma_nil)))) T.hK))) rfl
theorem Facts.f_among_of (T : Facts G P K mg f fd cc pp) : FnG G P w K mg 2 (f 26) (fd 26) ["company", "people"] (f_among_of) := fn_okN (k := 1) (b := m_among_of) 5 2 T.d_among_of.F sc_among_of (fun base cdv A outer s H E hgd hr tb =>
  pms_one (pms_ret (pm_lc (t := .tp [3, 4]) [("place", 3), ("person", 4)] rfl sc_among_of.nd (pmi_enu (by rfl) T.z_enumerate (pm_var (i := 1))) (L2.blkOk_by (by kernel_rfl)) (fun _ _ _ _ _ => pmg_tp rfl (pmgs_cons (i := 3) sc_among_of.nd (pmgs_cons (i := 4) sc_among_of.nd (pmgs_nil)))) (fun _ _ _ _ _ => pmts_nil) (fun _ _ _ _ _ => pm_lc (t := .nm 2) [("mate", 2)] rfl sc_among_of.nd (pmi_seq (pm_cut (pm_var (i := 1)) (pmo_none) (pmo_some (pm_var (i := 3))) T.hK)) (L2.blkOk_by (by kernel_rfl)) (fun _ _ _ _ _ => pmg_nm (i := 2) sc_among_of.nd) (fun _ _ _ _ _ => pmts_nil) (fun _ _ _ _ _ => pm_call (T.f_tie_of.mono (by decide)) hgd hr tb (by rfl) T.d_tie_of.m T.d_tie_of.F.kp T.b_tie_of takes0 (pma_cons (pm_var (i := 0)) (pma_cons (pm_var (i := 4)) (pma_cons (pm_var (i := 2)) (pma_nil))))))))) rfl
theorem Facts.f_parting_people (T : Facts G P K mg f fd cc pp) : FnG G P w K mg 8 (f 27) (fd 27) ["one", "other"] (f_parting_people) := fn_okN (k := 7) (b := m_parting_people) 6 2 T.d_parting_people.F sc_parting_people (fun base cdv A outer s H E hgd hr tb =>
  pms_cons (pms_expr (pm_call (T.f_check_two.mono (by decide)) hgd hr tb (by rfl) T.d_check_two.m T.d_check_two.F.kp T.b_check_two (L2.takes_of rfl rfl rfl rfl) (pma_cons (pm_var (i := 0)) (pma_cons (pm_var (i := 1)) (pma_nil)))))
  (pms_cons (pms_if (pmt_val (pm_call (T.f_are_joined_of.mono (by decide)) hgd hr tb (by rfl) T.d_are_joined_of.m T.d_are_joined_of.F.kp T.b_are_joined_of (L2.takes_of rfl rfl rfl rfl) (pma_cons (pm_var (i := 0)) (pma_cons (pm_var (i := 1)) (pma_nil))))) (pms_one (pms_ret (pm_non))) (pms_nil))
  (pms_cons (pms_set (i := 2) sc_parting_people.nd (pm_dict0))
  (pms_cons (pms_for (t := .nm 3) (L2.passes_of rfl) rfl (pmi_seq (pm_tup (pma_cons (pm_int) (pma_cons (pm_int) (pma_nil))))) (pmg_nm (i := 3) sc_parting_people.nd) (pms_one (pms_for (t := .nm 4) (L2.passes_of rfl) rfl (pmi_seq (pm_call (T.f_lots_of.mono (by decide)) hgd hr tb (by rfl) T.d_lots_of.m T.d_lots_of.F.kp T.b_lots_of (L2.takes_of rfl rfl rfl rfl) (pma_cons (pm_callB (cr_len2 T.hK) (by rfl) T.z_len bt_len (pma_cons (pm_var (i := 0)) (pma_nil))) (pma_cons (pm_var (i := 3)) (pma_nil))))) (pmg_nm (i := 4) sc_parting_people.nd) (pms_cons (pms_set (i := 5) sc_parting_people.nd (pm_tup (pma_cons (pm_call (T.f_among_of.mono (by decide)) hgd hr tb (by rfl) T.d_among_of.m T.d_among_of.F.kp T.b_among_of (L2.takes_of rfl rfl rfl rfl) (pma_cons (pm_var (i := 0)) (pma_cons (pm_var (i := 4)) (pma_nil)))) (pma_cons (pm_call (T.f_among_of.mono (by decide)) hgd hr tb (by rfl) T.d_among_of.m T.d_among_of.F.kp T.b_among_of (L2.takes_of rfl rfl rfl rfl) (pma_cons (pm_var (i := 1)) (pma_cons (pm_var (i := 4)) (pma_nil)))) (pma_nil)))))
  (pms_cons (pms_if (pmt_cmp (or_notInS hr) (pm_callB (cr_reprU (by have z := room_u hr; exact z) hgd) (by rfl) T.z_repr bt_repr (pma_cons (pm_var (i := 5)) (pma_nil))) (pm_var (i := 2))) (pms_one (pms_sub ps_setIx (pm_call (T.f_are_joined_of.mono (by decide)) hgd hr tb (by rfl) T.d_are_joined_of.m T.d_are_joined_of.F.kp T.b_are_joined_of (L2.takes_of rfl rfl rfl rfl) (pma_cons (pm_ix (pm_var (i := 5)) (pm_int) T.hK) (pma_cons (pm_ix (pm_var (i := 5)) (pm_int) T.hK) (pma_nil)))) (pm_var (i := 2)) (pm_callB (cr_reprU (by have z := room_u hr; exact z) hgd) (by rfl) T.z_repr bt_repr (pma_cons (pm_var (i := 5)) (pma_nil))))) (pms_nil))
  (pms_one (pms_if (pmt_not (pmt_val (pm_ix (pm_var (i := 2)) (pm_callB (cr_reprU (by have z := room_u hr; exact z) hgd) (by rfl) T.z_repr bt_repr (pma_cons (pm_var (i := 5)) (pma_nil))) T.hK))) (pms_one (pms_ret (pm_var (i := 4)))) (pms_nil))))))))
  (pms_one (pms_ret (pm_non))))))) rfl
theorem Facts.f_league_turns (T : Facts G P K mg f fd cc pp) : FnG G P w K mg 8 (f 28) (fd 28) ["one", "other"] (f_league_turns) := fn_okN (k := 7) (b := m_league_turns) 2 2 T.d_league_turns.F sc_league_turns (fun base cdv A outer s H E hgd hr tb =>
  pms_cons (pms_expr (pm_call (T.f_check_two.mono (by decide)) hgd hr tb (by rfl) T.d_check_two.m T.d_check_two.F.kp T.b_check_two (L2.takes_of rfl rfl rfl rfl) (pma_cons (pm_var (i := 0)) (pma_cons (pm_var (i := 1)) (pma_nil)))))
  (pms_one (pms_ret (pm_if (pmt_val (pm_call (T.f_are_joined_of.mono (by decide)) hgd hr tb (by rfl) T.d_are_joined_of.m T.d_are_joined_of.F.kp T.b_are_joined_of (L2.takes_of rfl rfl rfl rfl) (pma_cons (pm_var (i := 0)) (pma_cons (pm_var (i := 1)) (pma_nil))))) (pm_callB (cr_len2 T.hK) (by rfl) T.z_len bt_len (pma_cons (pm_call (T.f_unlike_results.mono (by decide)) hgd hr tb (by rfl) T.d_unlike_results.m T.d_unlike_results.F.kp T.b_unlike_results (L2.takes_of rfl rfl rfl rfl) (pma_cons (pm_var (i := 0)) (pma_cons (pm_var (i := 1)) (pma_nil)))) (pma_nil))) (pm_non))))) rfl
theorem Facts.f_league_road (T : Facts G P K mg f fd cc pp) : FnG G P w K mg 8 (f 29) (fd 29) ["one", "other"] (f_league_road) := fn_okN (k := 7) (b := m_league_road) 11 2 T.d_league_road.F sc_league_road (fun base cdv A outer s H E hgd hr tb =>
  pms_cons (pms_expr (pm_call (T.f_check_two.mono (by decide)) hgd hr tb (by rfl) T.d_check_two.m T.d_check_two.F.kp T.b_check_two (L2.takes_of rfl rfl rfl rfl) (pma_cons (pm_var (i := 0)) (pma_cons (pm_var (i := 1)) (pma_nil)))))
  (pms_cons (pms_if (pmt_not (pmt_val (pm_call (T.f_are_joined_of.mono (by decide)) hgd hr tb (by rfl) T.d_are_joined_of.m T.d_are_joined_of.F.kp T.b_are_joined_of (L2.takes_of rfl rfl rfl rfl) (pma_cons (pm_var (i := 0)) (pma_cons (pm_var (i := 1)) (pma_nil)))))) (pms_one (pms_ret (pm_non))) (pms_nil))
  (pms_cons (pms_par (i := 2) (j := 3) rfl sc_league_road.nd (pm_call (T.f_runs_of.mono (by decide)) hgd hr tb (by rfl) T.d_runs_of.m T.d_runs_of.F.kp T.b_runs_of (L2.takes_of rfl rfl rfl rfl) (pma_cons (pm_var (i := 0)) (pma_nil))) (pm_lst (pma_nil)))
  (pms_cons (pms_for (t := .nm 4) (L2.passes_of rfl) rfl (pmi_rng1 (by rfl) T.z_range (pm_callB (cr_len2 T.hK) (by rfl) T.z_len bt_len (pma_cons (pm_call (T.f_unlike_results.mono (by decide)) hgd hr tb (by rfl) T.d_unlike_results.m T.d_unlike_results.F.kp T.b_unlike_results (L2.takes_of rfl rfl rfl rfl) (pma_cons (pm_var (i := 0)) (pma_cons (pm_var (i := 1)) (pma_nil)))) (pma_nil)))) (pmg_nm (i := 4) sc_league_road.nd) (pms_cons (pms_set (i := 5) sc_league_road.nd (pm_lst (pma_nil)))
  (pms_cons (pms_for (t := .tp [6, 7]) (L2.passes_of rfl) rfl (pmi_enu (by rfl) T.z_enumerate (pm_var (i := 2))) (pmg_tp rfl (pmgs_cons (i := 6) sc_league_road.nd (pmgs_cons (i := 7) sc_league_road.nd (pmgs_nil)))) (pms_one (pms_for (t := .nm 8) (L2.passes_of rfl) rfl (pmi_rng1 (by rfl) T.z_range (pm_op2 or_sub (pm_callB (cr_len2 T.hK) (by rfl) T.z_len bt_len (pma_cons (pm_var (i := 7)) (pma_nil))) (pm_int))) (pmg_nm (i := 8) sc_league_road.nd) (pms_one (pms_if (pmt_val (pm_call (T.f_won.mono (by decide)) hgd hr tb (by rfl) T.d_won.m T.d_won.F.kp T.b_won (L2.takes_of rfl rfl rfl rfl) (pma_cons (pm_var (i := 1)) (pma_cons (pm_ix (pm_var (i := 7)) (pm_op2 or_add (pm_var (i := 8)) (pm_int)) T.hK) (pma_cons (pm_ix (pm_var (i := 7)) (pm_var (i := 8)) T.hK) (pma_nil)))))) (pms_one (pms_expr (pm_append (pm_var (i := 5)) (pm_tup (pma_cons (pm_callB (cr_minT rfl hr T.hK) (by rfl) T.z_min bt_min (pma_cons (pm_cut (pm_var (i := 7)) (pmo_some (pm_var (i := 8))) (pmo_some (pm_op2 or_add (pm_var (i := 8)) (pm_int))) T.hK) (pma_nil))) (pma_cons (pm_callB (cr_maxL rfl T.hK) (by rfl) T.z_max bt_max (pma_cons (pm_cut (pm_var (i := 7)) (pmo_some (pm_var (i := 8))) (pmo_some (pm_op2 or_add (pm_var (i := 8)) (pm_int))) T.hK) (pma_nil))) (pma_cons (pm_var (i := 6)) (pma_cons (pm_var (i := 8)) (pma_nil))))))))) (pms_nil))))))
  (pms_cons (pms_tgt (pm_callB (cr_minT rfl hr T.hK) (by rfl) T.z_min bt_min (pma_cons (pm_var (i := 5)) (pma_nil))) (pmg_tp rfl (pmgs_cons (i := 9) sc_league_road.nd (pmgs_cons (i := 10) sc_league_road.nd (pmgs_cons (i := 6) sc_league_road.nd (pmgs_cons (i := 8) sc_league_road.nd (pmgs_nil)))))))
  (pms_cons (pms_expr (pm_append (pm_var (i := 3)) (pm_tup (pma_cons (pm_var (i := 9)) (pma_cons (pm_var (i := 10)) (pma_nil))))))
  (pms_one (pms_sub2 rfl ps_setIx (pm_tup (pma_cons (pm_ix (pm_ix (pm_var (i := 2)) (pm_var (i := 6)) T.hK) (pm_op2 or_add (pm_var (i := 8)) (pm_int)) T.hK) (pma_cons (pm_ix (pm_ix (pm_var (i := 2)) (pm_var (i := 6)) T.hK) (pm_var (i := 8)) T.hK) (pma_nil)))) (pm_ix (pm_var (i := 2)) (pm_var (i := 6)) T.hK) (pm_var (i := 8)) (pm_ix (pm_var (i := 2)) (pm_var (i := 6)) T.hK) (pm_op2 or_add (pm_var (i := 8)) (pm_int)))))))))
  (pms_one (pms_ret (pm_var (i := 3)))))))) rfl
theorem Facts.f_league_couples (T : Facts G P K mg f fd cc pp) : FnG G P w K mg 7 (f 30) (fd 30) ["league"] (f_league_couples) := fn_okN (k := 6) (b := m_league_couples) 1 1 T.d_league_couples.F sc_league_couples (fun base cdv A outer s H E hgd hr tb =>
  pms_cons (pms_expr (pm_call (T.f_check_league.mono (by decide)) hgd hr tb (by rfl) T.d_check_league.m T.d_check_league.F.kp T.b_check_league (L2.takes_of rfl rfl rfl rfl) (pma_cons (pm_var (i := 0)) (pma_nil))))
  (pms_one (pms_ret (pm_call (T.f_alike_in.mono (by decide)) hgd hr tb (by rfl) T.d_alike_in.m T.d_alike_in.F.kp T.b_alike_in (L2.takes_of rfl rfl rfl rfl) (pma_cons (pm_var (i := 0)) (pma_nil)))))) rfl
theorem Facts.f_is_person (T : Facts G P K mg f fd cc pp) : FnG G P w K mg 3 (f 33) (fd 33) ["company", "value"] (f_is_person) := fn_okN (k := 2) (b := m_is_person) 2 2 T.d_is_person.F sc_is_person (fun base cdv A outer s H E hgd hr tb =>
  pms_one (pms_ret (pm_call (T.f_is_between.mono (by decide)) hgd hr tb (by rfl) T.d_is_between.m T.d_is_between.F.kp T.b_is_between (L2.takes_of rfl rfl rfl rfl) (pma_cons (pm_var (i := 1)) (pma_cons (pm_int) (pma_cons (pm_op2 or_sub (pm_callB (cr_len2 T.hK) (by rfl) T.z_len bt_len (pma_cons (pm_var (i := 0)) (pma_nil))) (pm_int)) (pma_nil))))))) rfl
theorem Facts.f_check_person (T : Facts G P K mg f fd cc pp) : FnG G P w K mg 4 (f 34) (fd 34) ["company", "person"] (f_check_person) := fn_okN (k := 3) (b := m_check_person) 2 2 T.d_check_person.F sc_check_person (fun base cdv A outer s H E hgd hr tb =>
  pms_one (pms_if (pmt_not (pmt_val (pm_call (T.f_is_person.mono (by decide)) hgd hr tb (by rfl) T.d_is_person.m T.d_is_person.F.kp T.b_is_person (L2.takes_of rfl rfl rfl rfl) (pma_cons (pm_var (i := 0)) (pma_cons (pm_var (i := 1)) (pma_nil)))))) (pms_one (raiseE (c := 2) T.t_InvalidPerson T.z_super (T.cls 2 (by decide)) rfl (L2.takes_of rfl rfl rfl rfl) hr (by rfl) T.c_InvalidPerson (pm_var (i := 1)))) (pms_nil))) rfl
theorem Facts.f_beats (T : Facts G P K mg f fd cc pp) : FnG G P w K mg 7 (f 35) (fd 35) ["league", "person", "loser"] (f_beats) := fn_okN (k := 6) (b := m_beats) 3 3 T.d_beats.F sc_beats (fun base cdv A outer s H E hgd hr tb =>
  pms_cons (pms_expr (pm_call (T.f_check_league.mono (by decide)) hgd hr tb (by rfl) T.d_check_league.m T.d_check_league.F.kp T.b_check_league (L2.takes_of rfl rfl rfl rfl) (pma_cons (pm_var (i := 0)) (pma_nil))))
  (pms_cons (pms_expr (pm_call (T.f_check_person.mono (by decide)) hgd hr tb (by rfl) T.d_check_person.m T.d_check_person.F.kp T.b_check_person (L2.takes_of rfl rfl rfl rfl) (pma_cons (pm_var (i := 0)) (pma_cons (pm_var (i := 1)) (pma_nil)))))
  (pms_cons (pms_if ((pmw_or (pmt_not (pmt_val (pm_call (T.f_is_person.mono (by decide)) hgd hr tb (by rfl) T.d_is_person.m T.d_is_person.F.kp T.b_is_person (L2.takes_of rfl rfl rfl rfl) (pma_cons (pm_var (i := 0)) (pma_cons (pm_var (i := 2)) (pma_nil)))))) (pmw_or1 (pmt_cmp (or_eq hr) (pm_var (i := 2)) (pm_var (i := 1))))).pt) (pms_one (raiseE (c := 2) T.t_InvalidPerson T.z_super (T.cls 2 (by decide)) rfl (L2.takes_of rfl rfl rfl rfl) hr (by rfl) T.c_InvalidPerson (pm_var (i := 2)))) (pms_nil))
  (pms_one (pms_ret (pm_call (T.f_won.mono (by decide)) hgd hr tb (by rfl) T.d_won.m T.d_won.F.kp T.b_won (L2.takes_of rfl rfl rfl rfl) (pma_cons (pm_var (i := 0)) (pma_cons (pm_var (i := 1)) (pma_cons (pm_var (i := 2)) (pma_nil)))))))))) rfl
theorem Facts.f_kept_rows (T : Facts G P K mg f fd cc pp) : FnG G P w K mg 1 (f 36) (fd 36) ["rows"] (f_kept_rows) := fn_okN (k := 0) (b := m_kept_rows) 2 1 T.d_kept_rows.F sc_kept_rows (fun base cdv A outer s H E hgd hr tb =>
  pms_one (pms_ret (pm_lc (t := .nm 1) [("row", 1)] rfl sc_kept_rows.nd (pmi_seq (pm_var (i := 0))) (L2.blkOk_by (by kernel_rfl)) (fun _ _ _ _ _ => pmg_nm (i := 1) sc_kept_rows.nd) (fun _ _ _ _ _ => pmts_nil) (fun _ _ _ _ _ => pm_callTy (cr_list T.hK) (by rfl) T.z_list bt_list (pma_cons (pm_var (i := 1)) (pma_nil)))))) rfl
theorem Facts.f_turned_of (T : Facts G P K mg f fd cc pp) : FnG G P w K mg 2 (f 37) (fd 37) ["league", "couple"] (f_turned_of) := fn_okN (k := 1) (b := m_turned_of) 3 2 T.d_turned_of.F sc_turned_of (fun base cdv A outer s H E hgd hr tb =>
  pms_cons (pms_set (i := 2) sc_turned_of.nd (pm_call (T.f_kept_rows.mono (by decide)) hgd hr tb (by rfl) T.d_kept_rows.m T.d_kept_rows.F.kp T.b_kept_rows (L2.takes_of rfl rfl rfl rfl) (pma_cons (pm_var (i := 0)) (pma_nil))))
  (pms_cons (pms_sub ps_setIx (pm_op2 or_sub (pm_int) (pm_ix (pm_ix (pm_var (i := 2)) (pm_ix (pm_var (i := 1)) (pm_int) T.hK) T.hK) (pm_ix (pm_var (i := 1)) (pm_int) T.hK) T.hK)) (pm_ix (pm_var (i := 2)) (pm_ix (pm_var (i := 1)) (pm_int) T.hK) T.hK) (pm_ix (pm_var (i := 1)) (pm_int) T.hK))
  (pms_one (pms_ret (pm_var (i := 2)))))) rfl
theorem Facts.f_is_couple (T : Facts G P K mg f fd cc pp) : FnG G P w K mg 4 (f 38) (fd 38) ["company", "value"] (f_is_couple) := fn_okN (k := 3) (b := m_is_couple) 2 2 T.d_is_couple.F sc_is_couple (fun base cdv A outer s H E hgd hr tb =>
  pms_cons (pms_if ((pmw_or (pmt_not (pmt_val (pm_callB (cr_isX T.anc T.hK) (by rfl) T.z_isinstance bt_isi (pma_cons (pm_var (i := 1)) (pma_cons (pm_ty (n := .tuple) (by rfl) T.z_tuple bt_tuple) (pma_nil)))))) (pmw_or (pmt_cmp (or_ne hr) (pm_callB (cr_len2 T.hK) (by rfl) T.z_len bt_len (pma_cons (pm_var (i := 1)) (pma_nil))) (pm_int)) (pmw_or1 (pmt_not (pmt_val (pm_call (T.f_is_person.mono (by decide)) hgd hr tb (by rfl) T.d_is_person.m T.d_is_person.F.kp T.b_is_person (L2.takes_of rfl rfl rfl rfl) (pma_cons (pm_var (i := 0)) (pma_cons (pm_ix (pm_var (i := 1)) (pm_int) T.hK) (pma_nil))))))))).pt) (pms_one (pms_ret (pm_bl))) (pms_nil))
  (pms_one (pms_ret (pm_and (pm_call (T.f_is_person.mono (by decide)) hgd hr tb (by rfl) T.d_is_person.m T.d_is_person.F.kp T.b_is_person (L2.takes_of rfl rfl rfl rfl) (pma_cons (pm_var (i := 0)) (pma_cons (pm_ix (pm_var (i := 1)) (pm_int) T.hK) (pma_nil)))) (pm_one (pm_cmp or_lt (pm_ix (pm_var (i := 1)) (pm_int) T.hK) (pm_ix (pm_var (i := 1)) (pm_int) T.hK))))))) rfl
theorem Facts.f_turned (T : Facts G P K mg f fd cc pp) : FnG G P w K mg 7 (f 39) (fd 39) ["league", "couple"] (f_turned) := fn_okN (k := 6) (b := m_turned) 2 2 T.d_turned.F sc_turned (fun base cdv A outer s H E hgd hr tb =>
  pms_cons (pms_expr (pm_call (T.f_check_league.mono (by decide)) hgd hr tb (by rfl) T.d_check_league.m T.d_check_league.F.kp T.b_check_league (L2.takes_of rfl rfl rfl rfl) (pma_cons (pm_var (i := 0)) (pma_nil))))
  (pms_cons (pms_if ((pmw_or (pmt_not (pmt_val (pm_call (T.f_is_couple.mono (by decide)) hgd hr tb (by rfl) T.d_is_couple.m T.d_is_couple.F.kp T.b_is_couple (L2.takes_of rfl rfl rfl rfl) (pma_cons (pm_var (i := 0)) (pma_cons (pm_var (i := 1)) (pma_nil)))))) (pmw_or1 (pmt_not (pmt_val (pm_call (T.f_are_alike.mono (by decide)) hgd hr tb (by rfl) T.d_are_alike.m T.d_are_alike.F.kp T.b_are_alike (L2.takes_of rfl rfl rfl rfl) (pma_cons (pm_var (i := 0)) (pma_cons (pm_ix (pm_var (i := 1)) (pm_int) T.hK) (pma_cons (pm_ix (pm_var (i := 1)) (pm_int) T.hK) (pma_nil))))))))).pt) (pms_one (raiseE (c := 3) T.t_InvalidCouple T.z_super (T.cls 3 (by decide)) rfl (L2.takes_of rfl rfl rfl rfl) hr (by rfl) T.c_InvalidCouple (pm_var (i := 1)))) (pms_nil))
  (pms_one (pms_ret (pm_call (T.f_turned_of.mono (by decide)) hgd hr tb (by rfl) T.d_turned_of.m T.d_turned_of.F.kp T.b_turned_of (L2.takes_of rfl rfl rfl rfl) (pma_cons (pm_var (i := 0)) (pma_cons (pm_var (i := 1)) (pma_nil)))))))) rfl
theorem Facts.f_check_couple (T : Facts G P K mg f fd cc pp) : FnG G P w K mg 5 (f 40) (fd 40) ["company", "couple"] (f_check_couple) := fn_okN (k := 4) (b := m_check_couple) 2 2 T.d_check_couple.F sc_check_couple (fun base cdv A outer s H E hgd hr tb =>
  pms_one (pms_if (pmt_not (pmt_val (pm_call (T.f_is_couple.mono (by decide)) hgd hr tb (by rfl) T.d_is_couple.m T.d_is_couple.F.kp T.b_is_couple (L2.takes_of rfl rfl rfl rfl) (pma_cons (pm_var (i := 0)) (pma_cons (pm_var (i := 1)) (pma_nil)))))) (pms_one (raiseE (c := 3) T.t_InvalidCouple T.z_super (T.cls 3 (by decide)) rfl (L2.takes_of rfl rfl rfl rfl) hr (by rfl) T.c_InvalidCouple (pm_var (i := 1)))) (pms_nil))) rfl
theorem Facts.f_is_sure_result (T : Facts G P K mg f fd cc pp) : FnG G P w K mg 7 (f 41) (fd 41) ["league", "couple"] (f_is_sure_result) := fn_okN (k := 6) (b := m_is_sure_result) 3 2 T.d_is_sure_result.F sc_is_sure_result (fun base cdv A outer s H E hgd hr tb =>
  pms_cons (pms_expr (pm_call (T.f_check_league.mono (by decide)) hgd hr tb (by rfl) T.d_check_league.m T.d_check_league.F.kp T.b_check_league (L2.takes_of rfl rfl rfl rfl) (pma_cons (pm_var (i := 0)) (pma_nil))))
  (pms_cons (pms_expr (pm_call (T.f_check_couple.mono (by decide)) hgd hr tb (by rfl) T.d_check_couple.m T.d_check_couple.F.kp T.b_check_couple (L2.takes_of rfl rfl rfl rfl) (pma_cons (pm_var (i := 0)) (pma_cons (pm_var (i := 1)) (pma_nil)))))
  (pms_one (pms_ret (pm_cmp (or_eq hr) (pm_lc (t := .nm 2) [("row", 2)] rfl sc_is_sure_result.nd (pmi_seq (pm_call (T.f_runs_of.mono (by decide)) hgd hr tb (by rfl) T.d_runs_of.m T.d_runs_of.F.kp T.b_runs_of (L2.takes_of rfl rfl rfl rfl) (pma_cons (pm_var (i := 0)) (pma_nil)))) (L2.blkOk_by (by kernel_rfl)) (fun _ _ _ _ _ => pmg_nm (i := 2) sc_is_sure_result.nd) (fun _ _ _ _ _ => pmts_one ((pmw_and (pmt_cmp (or_inS hr) (pm_ix (pm_var (i := 1)) (pm_int) T.hK) (pm_var (i := 2))) (pmw_and1 (pmt_cmp (or_inS hr) (pm_ix (pm_var (i := 1)) (pm_int) T.hK) (pm_var (i := 2))))).pt)) (fun _ _ _ _ _ => pm_var (i := 2))) (pm_lst (pma_nil))))))) rfl
theorem Facts.f_lots_with (T : Facts G P K mg f fd cc pp) : FnG G P w K mg 1 (f 42) (fd 42) ["couple", "size", "many"] (f_lots_with) := fn_okN (k := 0) (b := m_lots_with) 8 3 T.d_lots_with.F sc_lots_with (fun base cdv A outer s H E hgd hr tb =>
  pms_cons (pms_set (i := 3) sc_lots_with.nd (pm_lc (t := .nm 4) [("person", 4)] rfl sc_lots_with.nd (pmi_rng1 (by rfl) T.z_range (pm_var (i := 1))) (L2.blkOk_by (by kernel_rfl)) (fun _ _ _ _ _ => pmg_nm (i := 4) sc_lots_with.nd) (fun _ _ _ _ _ => pmts_one (pmt_cmp (or_notInS hr) (pm_var (i := 4)) (pm_var (i := 0)))) (fun _ _ _ _ _ => pm_var (i := 4))))
  (pms_cons (pms_set (i := 5) sc_lots_with.nd (pm_lst (pma_cons (pm_lst (pma_nil)) (pma_nil))))
  (pms_cons (pms_for (t := .nm 6) (L2.passes_of rfl) rfl (pmi_rng1 (by rfl) T.z_range (pm_op2 or_sub (pm_var (i := 2)) (pm_int))) (pmg_nm (i := 6) sc_lots_with.nd) (pms_one (pms_setLc2 (i := 5) (t := .nm 7) (t1 := .nm 4) [("lot", 7), ("person", 4)] [4] rfl sc_lots_with.nd (pmi_seq (pm_var (i := 5))) (L2.blkOk_by (by kernel_rfl)) (fun _ _ _ _ _ => pmg_nm (i := 7) sc_lots_with.nd) (fun _ _ _ _ _ => pmts_nil) (fun _ _ _ _ _ => pmi_seq (pm_var (i := 3))) (fun _ _ _ _ _ => pmg_nm (i := 4) sc_lots_with.nd) (fun _ _ _ _ _ => pmts_one ((pmw_or (pmt_cmp (or_eq hr) (pm_var (i := 7)) (pm_lst (pma_nil))) (pmw_or1 (pmt_cmp or_gt (pm_var (i := 4)) (pm_ix (pm_var (i := 7)) (pm_un ur_neg (pm_int)) T.hK)))).pt)) (fun _ _ _ _ _ => pm_op2 or_add (pm_var (i := 7)) (pm_lst (pma_cons (pm_var (i := 4)) (pma_nil)))) (L2.sw_true rfl rfl rfl rfl))))
  (pms_one (pms_ret (pm_callB (cr_sortD2 hr T.hK) (by rfl) T.z_sorted bt_sorted (pma_cons (pm_lc (t := .nm 7) [("lot", 7)] rfl sc_lots_with.nd (pmi_seq (pm_var (i := 5))) (L2.blkOk_by (by kernel_rfl)) (fun _ _ _ _ _ => pmg_nm (i := 7) sc_lots_with.nd) (fun _ _ _ _ _ => pmts_nil) (fun _ _ _ _ _ => pm_callB (cr_sortD2 hr T.hK) (by rfl) T.z_sorted bt_sorted (pma_cons (pm_op2 or_add (pm_var (i := 7)) (pm_callTy (cr_list T.hK) (by rfl) T.z_list bt_list (pma_cons (pm_var (i := 0)) (pma_nil)))) (pma_nil)))) (pma_nil)))))))) rfl
theorem Facts.f_sure_people (T : Facts G P K mg f fd cc pp) : FnG G P w K mg 7 (f 43) (fd 43) ["league", "couple"] (f_sure_people) := fn_okN (k := 6) (b := m_sure_people) 7 2 T.d_sure_people.F sc_sure_people (fun base cdv A outer s H E hgd hr tb =>
  pms_cons (pms_expr (pm_call (T.f_check_league.mono (by decide)) hgd hr tb (by rfl) T.d_check_league.m T.d_check_league.F.kp T.b_check_league (L2.takes_of rfl rfl rfl rfl) (pma_cons (pm_var (i := 0)) (pma_nil))))
  (pms_cons (pms_expr (pm_call (T.f_check_couple.mono (by decide)) hgd hr tb (by rfl) T.d_check_couple.m T.d_check_couple.F.kp T.b_check_couple (L2.takes_of rfl rfl rfl rfl) (pma_cons (pm_var (i := 0)) (pma_cons (pm_var (i := 1)) (pma_nil)))))
  (pms_cons (pms_if (pmt_cmp (or_ne hr) (pm_lc (t := .nm 2) [("row", 2)] rfl sc_sure_people.nd (pmi_seq (pm_call (T.f_runs_of.mono (by decide)) hgd hr tb (by rfl) T.d_runs_of.m T.d_runs_of.F.kp T.b_runs_of (L2.takes_of rfl rfl rfl rfl) (pma_cons (pm_var (i := 0)) (pma_nil)))) (L2.blkOk_by (by kernel_rfl)) (fun _ _ _ _ _ => pmg_nm (i := 2) sc_sure_people.nd) (fun _ _ _ _ _ => pmts_one ((pmw_and (pmt_cmp (or_inS hr) (pm_ix (pm_var (i := 1)) (pm_int) T.hK) (pm_var (i := 2))) (pmw_and1 (pmt_cmp (or_inS hr) (pm_ix (pm_var (i := 1)) (pm_int) T.hK) (pm_var (i := 2))))).pt)) (fun _ _ _ _ _ => pm_var (i := 2))) (pm_lst (pma_nil))) (pms_one (pms_ret (pm_non))) (pms_nil))
  (pms_cons (pms_for (t := .nm 3) (L2.passes_of rfl) rfl (pmi_seq (pm_tup (pma_cons (pm_int) (pma_cons (pm_int) (pma_cons (pm_int) (pma_nil)))))) (pmg_nm (i := 3) sc_sure_people.nd) (pms_one (pms_for (t := .nm 4) (L2.passes_of rfl) rfl (pmi_seq (pm_call (T.f_lots_with.mono (by decide)) hgd hr tb (by rfl) T.d_lots_with.m T.d_lots_with.F.kp T.b_lots_with (L2.takes_of rfl rfl rfl rfl) (pma_cons (pm_var (i := 1)) (pma_cons (pm_callB (cr_len2 T.hK) (by rfl) T.z_len bt_len (pma_cons (pm_var (i := 0)) (pma_nil))) (pma_cons (pm_var (i := 3)) (pma_nil)))))) (pmg_nm (i := 4) sc_sure_people.nd) (pms_cons (pms_tgt (pm_tup (pma_cons (pm_index (pm_var (i := 4)) (pm_ix (pm_var (i := 1)) (pm_int) T.hK) T.hK) (pma_cons (pm_index (pm_var (i := 4)) (pm_ix (pm_var (i := 1)) (pm_int) T.hK) T.hK) (pma_nil)))) (pmg_tp rfl (pmgs_cons (i := 5) sc_sure_people.nd (pmgs_cons (i := 6) sc_sure_people.nd (pmgs_nil)))))
  (pms_one (pms_if (pmt_cmp (or_eq hr) (pm_lc (t := .nm 2) [("row", 2)] rfl sc_sure_people.nd (pmi_seq (pm_call (T.f_runs_of.mono (by decide)) hgd hr tb (by rfl) T.d_runs_of.m T.d_runs_of.F.kp T.b_runs_of (L2.takes_of rfl rfl rfl rfl) (pma_cons (pm_call (T.f_among_of.mono (by decide)) hgd hr tb (by rfl) T.d_among_of.m T.d_among_of.F.kp T.b_among_of (L2.takes_of rfl rfl rfl rfl) (pma_cons (pm_var (i := 0)) (pma_cons (pm_var (i := 4)) (pma_nil)))) (pma_nil)))) (L2.blkOk_by (by kernel_rfl)) (fun _ _ _ _ _ => pmg_nm (i := 2) sc_sure_people.nd) (fun _ _ _ _ _ => pmts_one ((pmw_and (pmt_cmp (or_inS hr) (pm_var (i := 5)) (pm_var (i := 2))) (pmw_and1 (pmt_cmp (or_inS hr) (pm_var (i := 6)) (pm_var (i := 2))))).pt)) (fun _ _ _ _ _ => pm_var (i := 2))) (pm_lst (pma_nil))) (pms_one (pms_ret (pm_var (i := 4)))) (pms_nil)))))))
  (pms_one (pms_ret (pm_non))))))) rfl
theorem Facts.f_check_number (T : Facts G P K mg f fd cc pp) : FnG G P w K mg 3 (f 44) (fd 44) ["number", "low", "high"] (f_check_number) := fn_okN (k := 2) (b := m_check_number) 3 3 T.d_check_number.F sc_check_number (fun base cdv A outer s H E hgd hr tb =>
  pms_one (pms_if (pmt_not (pmt_val (pm_call (T.f_is_between.mono (by decide)) hgd hr tb (by rfl) T.d_is_between.m T.d_is_between.F.kp T.b_is_between (L2.takes_of rfl rfl rfl rfl) (pma_cons (pm_var (i := 0)) (pma_cons (pm_var (i := 1)) (pma_cons (pm_var (i := 2)) (pma_nil))))))) (pms_one (raiseE (c := 1) T.t_InvalidNumber T.z_super (T.cls 1 (by decide)) rfl (L2.takes_of rfl rfl rfl rfl) hr (by rfl) T.c_InvalidNumber (pm_var (i := 0)))) (pms_nil))) rfl
theorem Facts.f_league_at (T : Facts G P K mg f fd cc pp) : FnG G P w K mg 7 (f 45) (fd 45) ["league", "number"] (f_league_at) := fn_okN (k := 6) (b := m_league_at) 12 2 T.d_league_at.F sc_league_at (fun base cdv A outer s H E hgd hr tb =>
  pms_cons (pms_expr (pm_call (T.f_check_league.mono (by decide)) hgd hr tb (by rfl) T.d_check_league.m T.d_check_league.F.kp T.b_check_league (L2.takes_of rfl rfl rfl rfl) (pma_cons (pm_var (i := 0)) (pma_nil))))
  (pms_cons (pms_expr (pm_call (T.f_check_number.mono (by decide)) hgd hr tb (by rfl) T.d_check_number.m T.d_check_number.F.kp T.b_check_number (L2.takes_of rfl rfl rfl rfl) (pma_cons (pm_var (i := 1)) (pma_cons (pm_int) (pma_cons (pm_op2 or_sub (pm_call (T.f_size_of.mono (by decide)) hgd hr tb (by rfl) T.d_size_of.m T.d_size_of.F.kp T.b_size_of (L2.takes_of rfl rfl rfl rfl) (pma_cons (pm_var (i := 0)) (pma_nil))) (pm_int)) (pma_nil))))))
  (pms_cons (pms_par3 (i := 2) (j := 3) (l := 4) rfl sc_league_at.nd (pm_call (T.f_kept_rows.mono (by decide)) hgd hr tb (by rfl) T.d_kept_rows.m T.d_kept_rows.F.kp T.b_kept_rows (L2.takes_of rfl rfl rfl rfl) (pma_cons (pm_var (i := 0)) (pma_nil))) (pm_call (T.f_size_of.mono (by decide)) hgd hr tb (by rfl) T.d_size_of.m T.d_size_of.F.kp T.b_size_of (L2.takes_of rfl rfl rfl rfl) (pma_cons (pm_var (i := 0)) (pma_nil))) (pm_dict0))
  (pms_cons (pms_for (t := .tp [5, 6]) (L2.passes_of rfl) rfl (pmi_seq (pm_call (T.f_steps_of.mono (by decide)) hgd hr tb (by rfl) T.d_steps_of.m T.d_steps_of.F.kp T.b_steps_of (L2.takes_of rfl rfl rfl rfl) (pma_cons (pm_var (i := 0)) (pma_nil)))) (pmg_tp rfl (pmgs_cons (i := 5) sc_league_at.nd (pmgs_cons (i := 6) sc_league_at.nd (pmgs_nil)))) (pms_cons (pms_set (i := 3) sc_league_at.nd (pm_op2 or_fdiv (pm_var (i := 3)) (pm_op2 or_add (pm_callB (cr_len2 T.hK) (by rfl) T.z_len bt_len (pma_cons (pm_var (i := 6)) (pma_nil))) (pm_int))))
  (pms_cons (pms_set (i := 7) sc_league_at.nd (pm_diget hr (pm_var (i := 4)) (pm_ix (pm_var (i := 6)) (pm_int) T.hK) (pm_lst (pma_cons (pm_ix (pm_var (i := 6)) (pm_int) T.hK) (pma_nil))) (by exact ⟨rfl, rfl, rfl, rfl⟩)))
  (pms_cons (pms_tgt (pm_ix (pm_call (T.f_laid_rows.mono (by decide)) hgd hr tb (by rfl) T.d_laid_rows.m T.d_laid_rows.F.kp T.b_laid_rows (L2.takes_of rfl rfl rfl rfl) (pma_cons (pm_var (i := 7)) (pma_cons (pm_var (i := 5)) (pma_nil)))) (pm_op2 or_fdiv (pm_var (i := 1)) (pm_var (i := 3))) T.hK) (pmg_tp rfl (pmgs_cons (i := 8) sc_league_at.nd (pmgs_cons (i := 9) sc_league_at.nd (pmgs_nil)))))
  (pms_cons (pms_set (i := 1) sc_league_at.nd (pm_op2 or_modS (pm_var (i := 1)) (pm_var (i := 3))))
  (pms_cons (pms_sub (ps_setDI hr) (pm_op2 or_add (pm_op2 or_add (pm_cut (pm_var (i := 7)) (pmo_none) (pmo_some (pm_var (i := 9))) T.hK) (pm_lst (pma_cons (pm_var (i := 5)) (pma_nil)))) (pm_cut (pm_var (i := 7)) (pmo_some (pm_var (i := 9))) (pmo_none) T.hK)) (pm_var (i := 4)) (pm_ix (pm_var (i := 6)) (pm_int) T.hK))
  (pms_one (pms_for (t := .tp [10, 11]) (L2.passes_of rfl) rfl (pmi_seq (pm_var (i := 8))) (pmg_tp rfl (pmgs_cons (i := 10) sc_league_at.nd (pmgs_cons (i := 11) sc_league_at.nd (pmgs_nil)))) (pms_one (pms_sub ps_setIx (pm_var (i := 11)) (pm_ix (pm_var (i := 2)) (pm_var (i := 5)) T.hK) (pm_var (i := 10))))))))))))
  (pms_one (pms_ret (pm_var (i := 2)))))))) rfl
theorem Facts.f_is_league_road (T : Facts G P K mg f fd cc pp) : FnG G P w K mg 8 (f 46) (fd 46) ["one", "other", "value"] (f_is_league_road) := fn_okN (k := 7) (b := m_is_league_road) 5 3 T.d_is_league_road.F sc_is_league_road (fun base cdv A outer s H E hgd hr tb =>
  pms_cons (pms_expr (pm_call (T.f_check_two.mono (by decide)) hgd hr tb (by rfl) T.d_check_two.m T.d_check_two.F.kp T.b_check_two (L2.takes_of rfl rfl rfl rfl) (pma_cons (pm_var (i := 0)) (pma_cons (pm_var (i := 1)) (pma_nil)))))
  (pms_cons (pms_if (pmt_not (pmt_val (pm_callB (cr_isX T.anc T.hK) (by rfl) T.z_isinstance bt_isi (pma_cons (pm_var (i := 2)) (pma_cons (pm_ty (n := .list) (by rfl) T.z_list bt_list) (pma_nil)))))) (pms_one (pms_ret (pm_bl))) (pms_nil))
  (pms_cons (pms_set (i := 3) sc_is_league_road.nd (pm_var (i := 0)))
  (pms_cons (pms_for (t := .nm 4) (L2.passes_of rfl) rfl (pmi_seq (pm_var (i := 2))) (pmg_nm (i := 4) sc_is_league_road.nd) (pms_cons (pms_if ((pmw_or (pmt_not (pmt_val (pm_call (T.f_is_couple.mono (by decide)) hgd hr tb (by rfl) T.d_is_couple.m T.d_is_couple.F.kp T.b_is_couple (L2.takes_of rfl rfl rfl rfl) (pma_cons (pm_var (i := 3)) (pma_cons (pm_var (i := 4)) (pma_nil)))))) (pmw_or1 (pmt_not (pmt_val (pm_call (T.f_are_alike.mono (by decide)) hgd hr tb (by rfl) T.d_are_alike.m T.d_are_alike.F.kp T.b_are_alike (L2.takes_of rfl rfl rfl rfl) (pma_cons (pm_var (i := 3)) (pma_cons (pm_ix (pm_var (i := 4)) (pm_int) T.hK) (pma_cons (pm_ix (pm_var (i := 4)) (pm_int) T.hK) (pma_nil))))))))).pt) (pms_one (pms_ret (pm_bl))) (pms_nil))
  (pms_one (pms_set (i := 3) sc_is_league_road.nd (pm_call (T.f_turned_of.mono (by decide)) hgd hr tb (by rfl) T.d_turned_of.m T.d_turned_of.F.kp T.b_turned_of (L2.takes_of rfl rfl rfl rfl) (pma_cons (pm_var (i := 3)) (pma_cons (pm_var (i := 4)) (pma_nil))))))))
  (pms_one (pms_ret (pm_cmp (or_eq hr) (pm_var (i := 3)) (pm_var (i := 1))))))))) rfl
theorem Facts.f_is_league (T : Facts G P K mg f fd cc pp) : FnG G P w K mg 6 (f 47) (fd 47) ["value"] (f_is_league) := fn_okN (k := 5) (b := m_is_league) 1 1 T.d_is_league.F sc_is_league (fun base cdv A outer s H E hgd hr tb =>
  pms_one (pms_ret (pm_call (T.f_is_league_value.mono (by decide)) hgd hr tb (by rfl) T.d_is_league_value.m T.d_is_league_value.F.kp T.b_is_league_value (L2.takes_of rfl rfl rfl rfl) (pma_cons (pm_var (i := 0)) (pma_nil))))) rfl
theorem Facts.f__law_named_right (T : Facts G P K mg f fd cc pp) : FnG G P w K mg 9 (f 51) (fd 51) [] (f__law_named_right) := fn_okN (k := 8) (b := m__law_named_right) 3 0 T.d__law_named_right.F sc__law_named_right (fun base cdv A outer s H E hgd hr tb =>
  pms_cons (pms_par (i := 0) (j := 1) rfl sc__law_named_right.nd (pm_lst (pma_cons (pm_lst (pma_nil)) (pma_cons (pm_lst (pma_cons (pm_int) (pma_nil))) (pma_nil)))) (pm_lst (pma_cons (pm_lst (pma_nil)) (pma_cons (pm_lst (pma_cons (pm_int) (pma_nil))) (pma_nil)))))
  (pms_cons (pms_set (i := 2) sc__law_named_right.nd (pm_lst (pma_cons (pm_callK0 (T.f_is_league.mono (by decide)) hgd hr tb (by rfl) T.d_is_league.m T.d_is_league.F.kp T.kb_gk0 (L2.takes_of rfl rfl rfl rfl) gk0_rel (pmk_cons (pm_var (i := 0)) (pmk_nil))) (pma_cons (pm_callK0 (T.f_beats.mono (by decide)) hgd hr tb (by rfl) T.d_beats.m T.d_beats.F.kp T.kb_gk1 (L2.takes_of rfl rfl rfl rfl) gk1_rel (pmk_cons (pm_int) (pmk_cons (pm_int) (pmk_cons (pm_var (i := 0)) (pmk_nil))))) (pma_cons (pm_callK0 (T.f_league_couples.mono (by decide)) hgd hr tb (by rfl) T.d_league_couples.m T.d_league_couples.F.kp T.kb_gk2 (L2.takes_of rfl rfl rfl rfl) gk2_rel (pmk_cons (pm_var (i := 0)) (pmk_nil))) (pma_cons (pm_callK0 (T.f_turned.mono (by decide)) hgd hr tb (by rfl) T.d_turned.m T.d_turned.F.kp T.kb_gk3 (L2.takes_of rfl rfl rfl rfl) gk3_rel (pmk_cons (pm_tup (pma_cons (pm_int) (pma_cons (pm_int) (pma_nil)))) (pmk_cons (pm_var (i := 0)) (pmk_nil)))) (pma_nil)))))))
  (pms_cons (pms_set (i := 2) sc__law_named_right.nd (pm_op2 or_add (pm_var (i := 2)) (pm_lst (pma_cons (pm_callK0 (T.f_are_joined_leagues.mono (by decide)) hgd hr tb (by rfl) T.d_are_joined_leagues.m T.d_are_joined_leagues.F.kp T.kb_gk4 (L2.takes_of rfl rfl rfl rfl) gk4_rel (pmk_cons (pm_var (i := 1)) (pmk_cons (pm_var (i := 0)) (pmk_nil)))) (pma_cons (pm_callK0 (T.f_parting_people.mono (by decide)) hgd hr tb (by rfl) T.d_parting_people.m T.d_parting_people.F.kp T.kb_gk5 (L2.takes_of rfl rfl rfl rfl) gk5_rel (pmk_cons (pm_var (i := 1)) (pmk_cons (pm_var (i := 0)) (pmk_nil)))) (pma_cons (pm_callK0 (T.f_league_turns.mono (by decide)) hgd hr tb (by rfl) T.d_league_turns.m T.d_league_turns.F.kp T.kb_gk6 (L2.takes_of rfl rfl rfl rfl) gk6_rel (pmk_cons (pm_var (i := 1)) (pmk_cons (pm_var (i := 0)) (pmk_nil)))) (pma_nil)))))))
  (pms_cons (pms_set (i := 2) sc__law_named_right.nd (pm_op2 or_add (pm_var (i := 2)) (pm_lst (pma_cons (pm_callK0 (T.f_league_road.mono (by decide)) hgd hr tb (by rfl) T.d_league_road.m T.d_league_road.F.kp T.kb_gk7 (L2.takes_of rfl rfl rfl rfl) gk7_rel (pmk_cons (pm_var (i := 1)) (pmk_cons (pm_var (i := 0)) (pmk_nil)))) (pma_cons (pm_callK0 (T.f_is_league_road.mono (by decide)) hgd hr tb (by rfl) T.d_is_league_road.m T.d_is_league_road.F.kp T.kb_gk8 (L2.takes_of rfl rfl rfl rfl) gk8_rel (pmk_cons (pm_lst (pma_cons (pm_tup (pma_cons (pm_int) (pma_cons (pm_int) (pma_nil)))) (pma_nil))) (pmk_cons (pm_var (i := 1)) (pmk_cons (pm_var (i := 0)) (pmk_nil))))) (pma_cons (pm_callK0 (T.f_runs.mono (by decide)) hgd hr tb (by rfl) T.d_runs.m T.d_runs.F.kp T.kb_gk9 (L2.takes_of rfl rfl rfl rfl) gk9_rel (pmk_cons (pm_var (i := 1)) (pmk_nil))) (pma_nil)))))))
  (pms_cons (pms_set (i := 2) sc__law_named_right.nd (pm_op2 or_add (pm_var (i := 2)) (pm_lst (pma_cons (pm_callK0 (T.f_league_class_size.mono (by decide)) hgd hr tb (by rfl) T.d_league_class_size.m T.d_league_class_size.F.kp T.kb_gk10 (L2.takes_of rfl rfl rfl rfl) gk10_rel (pmk_cons (pm_var (i := 0)) (pmk_nil))) (pma_cons (pm_callK0 (T.f_leagues_by_turns.mono (by decide)) hgd hr tb (by rfl) T.d_leagues_by_turns.m T.d_leagues_by_turns.F.kp T.kb_gk11 (L2.takes_of rfl rfl rfl rfl) gk11_rel (pmk_cons (pm_var (i := 0)) (pmk_nil))) (pma_cons (pm_callK0 (T.f_is_sure_result.mono (by decide)) hgd hr tb (by rfl) T.d_is_sure_result.m T.d_is_sure_result.F.kp T.kb_gk12 (L2.takes_of rfl rfl rfl rfl) gk12_rel (pmk_cons (pm_tup (pma_cons (pm_int) (pma_cons (pm_int) (pma_nil)))) (pmk_cons (pm_var (i := 0)) (pmk_nil)))) (pma_cons (pm_callK0 (T.f_sure_people.mono (by decide)) hgd hr tb (by rfl) T.d_sure_people.m T.d_sure_people.F.kp T.kb_gk13 (L2.takes_of rfl rfl rfl rfl) gk13_rel (pmk_cons (pm_tup (pma_cons (pm_int) (pma_cons (pm_int) (pma_nil)))) (pmk_cons (pm_var (i := 0)) (pmk_nil)))) (pma_nil))))))))
  (pms_cons (pms_set (i := 2) sc__law_named_right.nd (pm_op2 or_add (pm_var (i := 2)) (pm_lst (pma_cons (pm_callK0 (T.f_league_at.mono (by decide)) hgd hr tb (by rfl) T.d_league_at.m T.d_league_at.F.kp T.kb_gk14 (L2.takes_of rfl rfl rfl rfl) gk14_rel (pmk_cons (pm_int) (pmk_cons (pm_var (i := 0)) (pmk_nil)))) (pma_cons (pm_callK0 (T.f_league_number.mono (by decide)) hgd hr tb (by rfl) T.d_league_number.m T.d_league_number.F.kp T.kb_gk15 (L2.takes_of rfl rfl rfl rfl) gk15_rel (pmk_cons (pm_var (i := 1)) (pmk_nil))) (pma_nil))))))
  (pms_one (pms_ret (pm_cmp (or_eq hr) (pm_callB (cr_reprU (by have z := room_u hr; exact z) hgd) (by rfl) T.z_repr bt_repr (pma_cons (pm_var (i := 2)) (pma_nil))) (pm_callB (cr_reprU (by have z := room_u hr; exact z) hgd) (by rfl) T.z_repr bt_repr (pma_cons (pm_lst (pma_cons (pm_bl) (pma_cons (pm_bl) (pma_cons (pm_lst (pma_cons (pm_tup (pma_cons (pm_int) (pma_cons (pm_int) (pma_nil)))) (pma_nil))) (pma_cons (pm_var (i := 1)) (pma_cons (pm_bl) (pma_cons (pm_non) (pma_cons (pm_int) (pma_cons (pm_lst (pma_cons (pm_tup (pma_cons (pm_int) (pma_cons (pm_int) (pma_nil)))) (pma_nil))) (pma_cons (pm_bl) (pma_cons (pm_lst (pma_cons (pm_lst (pma_cons (pm_int) (pma_cons (pm_int) (pma_nil)))) (pma_nil))) (pma_cons (pm_int) (pma_cons (pm_lst (pma_cons (pm_int) (pma_cons (pm_int) (pma_nil)))) (pma_cons (pm_bl) (pma_cons (pm_non) (pma_cons (pm_var (i := 1)) (pma_cons (pm_int) (pma_nil)))))))))))))))))) (pma_nil)))))))))))) rfl
theorem Facts.gtok (T : Facts G P K mg f fd cc pp) {k : Nat} (hk : 8 ≤ k) : GtOK G P w K mg k gt := ⟨fun g fn e => by
  unfold gt at e
  split at e
  · cases e
    exact ⟨fd 10, ["league"], by rw [T.gv_runs]; exact T.f_runs.mono (Nat.le_trans (by decide) hk), by rw [T.gv_runs]; exact T.d_runs.F.kp, T.b_runs⟩
  · cases e
    exact ⟨fd 13, ["league"], by rw [T.gv_league_class_size]; exact T.f_league_class_size.mono (Nat.le_trans (by decide) hk), by rw [T.gv_league_class_size]; exact T.d_league_class_size.F.kp, T.b_league_class_size⟩
  · cases e
    exact ⟨fd 15, ["league"], by rw [T.gv_leagues_by_turns]; exact T.f_leagues_by_turns.mono (Nat.le_trans (by decide) hk), by rw [T.gv_leagues_by_turns]; exact T.d_leagues_by_turns.F.kp, T.b_leagues_by_turns⟩
  · cases e
    exact ⟨fd 18, ["league"], by rw [T.gv_league_number]; exact T.f_league_number.mono (Nat.le_trans (by decide) hk), by rw [T.gv_league_number]; exact T.d_league_number.F.kp, T.b_league_number⟩
  · cases e
    exact ⟨fd 23, ["one", "other"], by rw [T.gv_are_joined_leagues]; exact T.f_are_joined_leagues.mono (Nat.le_trans (by decide) hk), by rw [T.gv_are_joined_leagues]; exact T.d_are_joined_leagues.F.kp, T.b_are_joined_leagues⟩
  · cases e
    exact ⟨fd 27, ["one", "other"], by rw [T.gv_parting_people]; exact T.f_parting_people.mono (Nat.le_trans (by decide) hk), by rw [T.gv_parting_people]; exact T.d_parting_people.F.kp, T.b_parting_people⟩
  · cases e
    exact ⟨fd 28, ["one", "other"], by rw [T.gv_league_turns]; exact T.f_league_turns.mono (Nat.le_trans (by decide) hk), by rw [T.gv_league_turns]; exact T.d_league_turns.F.kp, T.b_league_turns⟩
  · cases e
    exact ⟨fd 29, ["one", "other"], by rw [T.gv_league_road]; exact T.f_league_road.mono (Nat.le_trans (by decide) hk), by rw [T.gv_league_road]; exact T.d_league_road.F.kp, T.b_league_road⟩
  · cases e⟩
theorem Facts.lb_0 (T : Facts G P K mg f fd cc pp) (base : Heap) : LamB G P w K mg base 7 (G.lam 0) [] ["_law_bad"] b_lam0 := by
  rw [T.lam]
  exact ⟨NdefX.nscope_by (by kernel_rfl), fun cl pm cdv ctv us hl => match us, hl with | [], _ => rfl, fun cl c' fa A outer s H E hgd hr tb =>
  pm_call (T.f_league_couples.mono (by decide)) hgd hr tb (by rfl) T.d_league_couples.m T.d_league_couples.F.kp T.b_league_couples (L2.takes_of rfl rfl rfl rfl) (pma_cons (pm_var (i := 0)) (pma_nil))⟩
theorem Facts.lb_2 (T : Facts G P K mg f fd cc pp) (base : Heap) : LamB G P w K mg base 7 (G.lam 2) [] ["_law_bad"] b_lam2 := by
  rw [T.lam]
  exact ⟨NdefX.nscope_by (by kernel_rfl), fun cl pm cdv ctv us hl => match us, hl with | [], _ => rfl, fun cl c' fa A outer s H E hgd hr tb =>
  pm_call (T.f_beats.mono (by decide)) hgd hr tb (by rfl) T.d_beats.m T.d_beats.F.kp T.b_beats (L2.takes_of rfl rfl rfl rfl) (pma_cons (pm_var (i := 0)) (pma_cons (pm_non) (pma_cons (pm_non) (pma_nil))))⟩
theorem Facts.lb_3 (T : Facts G P K mg f fd cc pp) (base : Heap) : LamB G P w K mg base 7 (G.lam 3) [] ["_law_bad"] b_lam3 := by
  rw [T.lam]
  exact ⟨NdefX.nscope_by (by kernel_rfl), fun cl pm cdv ctv us hl => match us, hl with | [], _ => rfl, fun cl c' fa A outer s H E hgd hr tb =>
  pm_call (T.f_turned.mono (by decide)) hgd hr tb (by rfl) T.d_turned.m T.d_turned.F.kp T.b_turned (L2.takes_of rfl rfl rfl rfl) (pma_cons (pm_var (i := 0)) (pma_cons (pm_non) (pma_nil)))⟩
theorem Facts.lb_4 (T : Facts G P K mg f fd cc pp) (base : Heap) : LamB G P w K mg base 7 (G.lam 4) [] ["_law_bad"] b_lam4 := by
  rw [T.lam]
  exact ⟨NdefX.nscope_by (by kernel_rfl), fun cl pm cdv ctv us hl => match us, hl with | [], _ => rfl, fun cl c' fa A outer s H E hgd hr tb =>
  pm_call (T.f_is_sure_result.mono (by decide)) hgd hr tb (by rfl) T.d_is_sure_result.m T.d_is_sure_result.F.kp T.b_is_sure_result (L2.takes_of rfl rfl rfl rfl) (pma_cons (pm_var (i := 0)) (pma_cons (pm_non) (pma_nil)))⟩
theorem Facts.lb_5 (T : Facts G P K mg f fd cc pp) (base : Heap) : LamB G P w K mg base 7 (G.lam 5) [] ["_law_bad"] b_lam5 := by
  rw [T.lam]
  exact ⟨NdefX.nscope_by (by kernel_rfl), fun cl pm cdv ctv us hl => match us, hl with | [], _ => rfl, fun cl c' fa A outer s H E hgd hr tb =>
  pm_call (T.f_sure_people.mono (by decide)) hgd hr tb (by rfl) T.d_sure_people.m T.d_sure_people.F.kp T.b_sure_people (L2.takes_of rfl rfl rfl rfl) (pma_cons (pm_var (i := 0)) (pma_cons (pm_non) (pma_nil)))⟩
theorem Facts.lb_6 (T : Facts G P K mg f fd cc pp) (base : Heap) : LamB G P w K mg base 7 (G.lam 6) [] ["_law_bad"] b_lam6 := by
  rw [T.lam]
  exact ⟨NdefX.nscope_by (by kernel_rfl), fun cl pm cdv ctv us hl => match us, hl with | [], _ => rfl, fun cl c' fa A outer s H E hgd hr tb =>
  pm_call (T.f_league_at.mono (by decide)) hgd hr tb (by rfl) T.d_league_at.m T.d_league_at.F.kp T.b_league_at (L2.takes_of rfl rfl rfl rfl) (pma_cons (pm_var (i := 0)) (pma_cons (pm_non) (pma_nil)))⟩
theorem Facts.lb_9 (T : Facts G P K mg f fd cc pp) (base : Heap) : LamB G P w K mg base 8 (G.lam 9) [] ["_law_bad"] b_lam9 := by
  rw [T.lam]
  exact ⟨NdefX.nscope_by (by kernel_rfl), fun cl pm cdv ctv us hl => match us, hl with | [], _ => rfl, fun cl c' fa A outer s H E hgd hr tb =>
  pm_call (T.f_is_league_road.mono (by decide)) hgd hr tb (by rfl) T.d_is_league_road.m T.d_is_league_road.F.kp T.b_is_league_road (L2.takes_of rfl rfl rfl rfl) (pma_cons (pm_var (i := 0)) (pma_cons (pm_non) (pma_cons (pm_non) (pma_nil))))⟩
theorem Facts.lb_10 (T : Facts G P K mg f fd cc pp) (base : Heap) : LamB G P w K mg base 8 (G.lam 10) [] ["_law_bad"] b_lam10 := by
  rw [T.lam]
  exact ⟨NdefX.nscope_by (by kernel_rfl), fun cl pm cdv ctv us hl => match us, hl with | [], _ => rfl, fun cl c' fa A outer s H E hgd hr tb =>
  pm_call (T.f_is_league_road.mono (by decide)) hgd hr tb (by rfl) T.d_is_league_road.m T.d_is_league_road.F.kp T.b_is_league_road (L2.takes_of rfl rfl rfl rfl) (pma_cons (pm_lst (pma_cons (pm_lst (pma_nil)) (pma_nil))) (pma_cons (pm_var (i := 0)) (pma_cons (pm_non) (pma_nil))))⟩
theorem Facts.lb_11 (T : Facts G P K mg f fd cc pp) (base : Heap) : LamB G P w K mg base 7 (G.lam 11) [] ["_law_row", "_law_bad"] b_lam11 := by
  rw [T.lam]
  exact ⟨NdefX.nscope_by (by kernel_rfl), fun cl pm cdv ctv us hl => match us, hl with | [], _ => rfl, fun cl c' fa A outer s H E hgd hr tb =>
  pm_call (T.f_beats.mono (by decide)) hgd hr tb (by rfl) T.d_beats.m T.d_beats.F.kp T.b_beats (L2.takes_of rfl rfl rfl rfl) (pma_cons (pm_var (i := 0)) (pma_cons (pm_var (i := 1)) (pma_cons (pm_non) (pma_nil))))⟩
theorem Facts.lb_12 (T : Facts G P K mg f fd cc pp) (base : Heap) : LamB G P w K mg base 7 (G.lam 12) [] ["_law_row", "_law_bad"] b_lam12 := by
  rw [T.lam]
  exact ⟨NdefX.nscope_by (by kernel_rfl), fun cl pm cdv ctv us hl => match us, hl with | [], _ => rfl, fun cl c' fa A outer s H E hgd hr tb =>
  pm_call (T.f_beats.mono (by decide)) hgd hr tb (by rfl) T.d_beats.m T.d_beats.F.kp T.b_beats (L2.takes_of rfl rfl rfl rfl) (pma_cons (pm_var (i := 0)) (pma_cons (pm_int) (pma_cons (pm_var (i := 1)) (pma_nil))))⟩
theorem Facts.lb_13 (T : Facts G P K mg f fd cc pp) (base : Heap) : LamB G P w K mg base 7 (G.lam 13) [] ["_law_row"] b_lam13 := by
  rw [T.lam]
  exact ⟨NdefX.nscope_by (by kernel_rfl), fun cl pm cdv ctv us hl => match us, hl with | [], _ => rfl, fun cl c' fa A outer s H E hgd hr tb =>
  pm_call (T.f_beats.mono (by decide)) hgd hr tb (by rfl) T.d_beats.m T.d_beats.F.kp T.b_beats (L2.takes_of rfl rfl rfl rfl) (pma_cons (pm_var (i := 0)) (pma_cons (pm_int) (pma_cons (pm_int) (pma_nil))))⟩
theorem Facts.lb_14 (T : Facts G P K mg f fd cc pp) (base : Heap) : LamB G P w K mg base 7 (G.lam 14) [] [] b_lam14 := by
  rw [T.lam]
  exact ⟨NdefX.nscope_by (by kernel_rfl), fun cl pm cdv ctv us hl => match us, hl with | [], _ => rfl, fun cl c' fa A outer s H E hgd hr tb =>
  pm_call (T.f_beats.mono (by decide)) hgd hr tb (by rfl) T.d_beats.m T.d_beats.F.kp T.b_beats (L2.takes_of rfl rfl rfl rfl) (pma_cons (pm_lst (pma_cons (pm_lst (pma_nil)) (pma_nil))) (pma_cons (pm_int) (pma_cons (pm_int) (pma_nil))))⟩
theorem Facts.lb_15 (T : Facts G P K mg f fd cc pp) (base : Heap) : LamB G P w K mg base 7 (G.lam 15) [] ["_law_row", "_law_bad"] b_lam15 := by
  rw [T.lam]
  exact ⟨NdefX.nscope_by (by kernel_rfl), fun cl pm cdv ctv us hl => match us, hl with | [], _ => rfl, fun cl c' fa A outer s H E hgd hr tb =>
  pm_call (T.f_turned.mono (by decide)) hgd hr tb (by rfl) T.d_turned.m T.d_turned.F.kp T.b_turned (L2.takes_of rfl rfl rfl rfl) (pma_cons (pm_var (i := 0)) (pma_cons (pm_var (i := 1)) (pma_nil)))⟩
theorem Facts.lb_16 (T : Facts G P K mg f fd cc pp) (base : Heap) : LamB G P w K mg base 7 (G.lam 16) [] ["_law_row", "_law_bad"] b_lam16 := by
  rw [T.lam]
  exact ⟨NdefX.nscope_by (by kernel_rfl), fun cl pm cdv ctv us hl => match us, hl with | [], _ => rfl, fun cl c' fa A outer s H E hgd hr tb =>
  pm_call (T.f_is_sure_result.mono (by decide)) hgd hr tb (by rfl) T.d_is_sure_result.m T.d_is_sure_result.F.kp T.b_is_sure_result (L2.takes_of rfl rfl rfl rfl) (pma_cons (pm_var (i := 0)) (pma_cons (pm_var (i := 1)) (pma_nil)))⟩
theorem Facts.lb_17 (T : Facts G P K mg f fd cc pp) (base : Heap) : LamB G P w K mg base 7 (G.lam 17) [] ["_law_row", "_law_bad"] b_lam17 := by
  rw [T.lam]
  exact ⟨NdefX.nscope_by (by kernel_rfl), fun cl pm cdv ctv us hl => match us, hl with | [], _ => rfl, fun cl c' fa A outer s H E hgd hr tb =>
  pm_call (T.f_sure_people.mono (by decide)) hgd hr tb (by rfl) T.d_sure_people.m T.d_sure_people.F.kp T.b_sure_people (L2.takes_of rfl rfl rfl rfl) (pma_cons (pm_var (i := 0)) (pma_cons (pm_var (i := 1)) (pma_nil)))⟩
theorem Facts.lb_18 (T : Facts G P K mg f fd cc pp) (base : Heap) : LamB G P w K mg base 7 (G.lam 18) [] ["_law_row"] b_lam18 := by
  rw [T.lam]
  exact ⟨NdefX.nscope_by (by kernel_rfl), fun cl pm cdv ctv us hl => match us, hl with | [], _ => rfl, fun cl c' fa A outer s H E hgd hr tb =>
  pm_call (T.f_turned.mono (by decide)) hgd hr tb (by rfl) T.d_turned.m T.d_turned.F.kp T.b_turned (L2.takes_of rfl rfl rfl rfl) (pma_cons (pm_var (i := 0)) (pma_cons (pm_tup (pma_cons (pm_int) (pma_cons (pm_int) (pma_nil)))) (pma_nil)))⟩
theorem Facts.lb_19 (T : Facts G P K mg f fd cc pp) (base : Heap) : LamB G P w K mg base 7 (G.lam 19) [] ["_law_ring"] b_lam19 := by
  rw [T.lam]
  exact ⟨NdefX.nscope_by (by kernel_rfl), fun cl pm cdv ctv us hl => match us, hl with | [], _ => rfl, fun cl c' fa A outer s H E hgd hr tb =>
  pm_call (T.f_turned.mono (by decide)) hgd hr tb (by rfl) T.d_turned.m T.d_turned.F.kp T.b_turned (L2.takes_of rfl rfl rfl rfl) (pma_cons (pm_var (i := 0)) (pma_cons (pm_tup (pma_cons (pm_int) (pma_cons (pm_int) (pma_nil)))) (pma_nil)))⟩
theorem Facts.lb_20 (T : Facts G P K mg f fd cc pp) (base : Heap) : LamB G P w K mg base 7 (G.lam 20) [] ["_law_row", "_law_bad"] b_lam20 := by
  rw [T.lam]
  exact ⟨NdefX.nscope_by (by kernel_rfl), fun cl pm cdv ctv us hl => match us, hl with | [], _ => rfl, fun cl c' fa A outer s H E hgd hr tb =>
  pm_call (T.f_league_at.mono (by decide)) hgd hr tb (by rfl) T.d_league_at.m T.d_league_at.F.kp T.b_league_at (L2.takes_of rfl rfl rfl rfl) (pma_cons (pm_var (i := 0)) (pma_cons (pm_var (i := 1)) (pma_nil)))⟩
theorem Facts.lb_21 (T : Facts G P K mg f fd cc pp) (base : Heap) : LamB G P w K mg base 7 (G.lam 21) [] ["_law_ring"] b_lam21 := by
  rw [T.lam]
  exact ⟨NdefX.nscope_by (by kernel_rfl), fun cl pm cdv ctv us hl => match us, hl with | [], _ => rfl, fun cl c' fa A outer s H E hgd hr tb =>
  pm_call (T.f_league_at.mono (by decide)) hgd hr tb (by rfl) T.d_league_at.m T.d_league_at.F.kp T.b_league_at (L2.takes_of rfl rfl rfl rfl) (pma_cons (pm_var (i := 0)) (pma_cons (pm_int) (pma_nil)))⟩
theorem Facts.lb_22 (T : Facts G P K mg f fd cc pp) (base : Heap) : LamB G P w K mg base 7 (G.lam 22) [] [] b_lam22 := by
  rw [T.lam]
  exact ⟨NdefX.nscope_by (by kernel_rfl), fun cl pm cdv ctv us hl => match us, hl with | [], _ => rfl, fun cl c' fa A outer s H E hgd hr tb =>
  pm_call (T.f_league_at.mono (by decide)) hgd hr tb (by rfl) T.d_league_at.m T.d_league_at.F.kp T.b_league_at (L2.takes_of rfl rfl rfl rfl) (pma_cons (pm_lst (pma_cons (pm_lst (pma_nil)) (pma_nil))) (pma_cons (pm_int) (pma_nil)))⟩
theorem Facts.lb_24 (T : Facts G P K mg f fd cc pp) (base : Heap) : LamB G P w K mg base 8 (G.lam 24) [] ["_law_row", "_law_bad"] b_lam24 := by
  rw [T.lam]
  exact ⟨NdefX.nscope_by (by kernel_rfl), fun cl pm cdv ctv us hl => match us, hl with | [], _ => rfl, fun cl c' fa A outer s H E hgd hr tb =>
  pm_call (T.f_is_league_road.mono (by decide)) hgd hr tb (by rfl) T.d_is_league_road.m T.d_is_league_road.F.kp T.b_is_league_road (L2.takes_of rfl rfl rfl rfl) (pma_cons (pm_var (i := 0)) (pma_cons (pm_var (i := 1)) (pma_cons (pm_non) (pma_nil))))⟩
theorem Facts.lb_25 (T : Facts G P K mg f fd cc pp) (base : Heap) : LamB G P w K mg base 7 (G.lam 25) ["_law_bad"] [] b_lam25 := by
  rw [T.lam]
  exact ⟨NdefX.nscope_by (by kernel_rfl), fun cl pm cdv ctv us hl => match us, hl with | [_], _ => rfl, fun cl c' fa A outer s H E hgd hr tb =>
  pm_call (T.f_runs.mono (by decide)) hgd hr tb (by rfl) T.d_runs.m T.d_runs.F.kp T.b_runs (L2.takes_of rfl rfl rfl rfl) (pma_cons (pm_var (i := 0)) (pma_nil))⟩
theorem Facts.lb_26 (T : Facts G P K mg f fd cc pp) (base : Heap) : LamB G P w K mg base 8 (G.lam 26) ["_law_bad"] [] b_lam26 := by
  rw [T.lam]
  exact ⟨NdefX.nscope_by (by kernel_rfl), fun cl pm cdv ctv us hl => match us, hl with | [_], _ => rfl, fun cl c' fa A outer s H E hgd hr tb =>
  pm_call (T.f_league_turns.mono (by decide)) hgd hr tb (by rfl) T.d_league_turns.m T.d_league_turns.F.kp T.b_league_turns (L2.takes_of rfl rfl rfl rfl) (pma_cons (pm_lst (pma_cons (pm_lst (pma_nil)) (pma_nil))) (pma_cons (pm_var (i := 0)) (pma_nil)))⟩
theorem Facts.lb_27 (T : Facts G P K mg f fd cc pp) (base : Heap) : LamB G P w K mg base 7 (G.lam 27) ["_law_bad"] [] b_lam27 := by
  rw [T.lam]
  exact ⟨NdefX.nscope_by (by kernel_rfl), fun cl pm cdv ctv us hl => match us, hl with | [_], _ => rfl, fun cl c' fa A outer s H E hgd hr tb =>
  pm_call (T.f_turned.mono (by decide)) hgd hr tb (by rfl) T.d_turned.m T.d_turned.F.kp T.b_turned (L2.takes_of rfl rfl rfl rfl) (pma_cons (pm_lst (pma_cons (pm_lst (pma_nil)) (pma_cons (pm_lst (pma_cons (pm_int) (pma_nil))) (pma_nil)))) (pma_cons (pm_var (i := 0)) (pma_nil)))⟩
theorem Facts.lb_28 (T : Facts G P K mg f fd cc pp) (base : Heap) : LamB G P w K mg base 7 (G.lam 28) ["_law_bad"] [] b_lam28 := by
  rw [T.lam]
  exact ⟨NdefX.nscope_by (by kernel_rfl), fun cl pm cdv ctv us hl => match us, hl with | [_], _ => rfl, fun cl c' fa A outer s H E hgd hr tb =>
  pm_call (T.f_league_at.mono (by decide)) hgd hr tb (by rfl) T.d_league_at.m T.d_league_at.F.kp T.b_league_at (L2.takes_of rfl rfl rfl rfl) (pma_cons (pm_lst (pma_cons (pm_lst (pma_nil)) (pma_nil))) (pma_cons (pm_var (i := 0)) (pma_nil)))⟩
theorem Facts.lb_29 (T : Facts G P K mg f fd cc pp) (base : Heap) : LamB G P w K mg base 7 (G.lam 29) ["_law_bad"] [] b_lam29 := by
  rw [T.lam]
  exact ⟨NdefX.nscope_by (by kernel_rfl), fun cl pm cdv ctv us hl => match us, hl with | [_], _ => rfl, fun cl c' fa A outer s H E hgd hr tb =>
  pm_call (T.f_beats.mono (by decide)) hgd hr tb (by rfl) T.d_beats.m T.d_beats.F.kp T.b_beats (L2.takes_of rfl rfl rfl rfl) (pma_cons (pm_lst (pma_cons (pm_lst (pma_nil)) (pma_cons (pm_lst (pma_cons (pm_int) (pma_nil))) (pma_nil)))) (pma_cons (pm_int) (pma_cons (pm_var (i := 0)) (pma_nil))))⟩
theorem Facts.lam0 (T : Facts G P K mg f fd cc pp) {base : Heap} (tb : Tbs G base mg) (m : Mp) : LamsOK G P w K mg base 9 m (L0 lt0) := lams0 (k := 8) tb (by decide) fun i fn e => by
  unfold lt0 at e
  split at e
  · cases e
    exact ⟨[], b_lam14, rfl, (T.lb_14 base).mono (by decide)⟩
  · cases e
    exact ⟨[], b_lam22, rfl, (T.lb_22 base).mono (by decide)⟩
  · cases e
    exact ⟨["_law_bad"], b_lam25, rfl, (T.lb_25 base).mono (by decide)⟩
  · cases e
    exact ⟨["_law_bad"], b_lam26, rfl, (T.lb_26 base).mono (by decide)⟩
  · cases e
    exact ⟨["_law_bad"], b_lam27, rfl, (T.lb_27 base).mono (by decide)⟩
  · cases e
    exact ⟨["_law_bad"], b_lam28, rfl, (T.lb_28 base).mono (by decide)⟩
  · cases e
    exact ⟨["_law_bad"], b_lam29, rfl, (T.lb_29 base).mono (by decide)⟩
  · cases e
theorem Facts.lb_1 (T : Facts G P K mg f fd cc pp) (base : Heap) : LamB G P w K mg base 9 (G.lam 1) [] ["_law_call", "_law_bad"] b_lam1 := by
  rw [T.lam]
  exact ⟨NdefX.nscope_by (by kernel_rfl), fun cl pm cdv ctv us hl => match us, hl with | [], _ => rfl, fun cl c' fa A outer s H E hgd hr tb =>
  pm_callV (i := 0) (T.gtok (by decide)) (T.lam0 tb _) hgd hr tb (by decide) (L2.takes_of rfl rfl rfl rfl) (pma_cons (pm_var (i := 1)) (pma_nil))⟩
theorem Facts.lb_7 (T : Facts G P K mg f fd cc pp) (base : Heap) : LamB G P w K mg base 9 (G.lam 7) [] ["_law_call", "_law_bad"] b_lam7 := by
  rw [T.lam]
  exact ⟨NdefX.nscope_by (by kernel_rfl), fun cl pm cdv ctv us hl => match us, hl with | [], _ => rfl, fun cl c' fa A outer s H E hgd hr tb =>
  pm_callV (i := 0) (T.gtok (by decide)) (T.lam0 tb _) hgd hr tb (by decide) (L2.takes_of rfl rfl rfl rfl) (pma_cons (pm_var (i := 1)) (pma_cons (pm_non) (pma_nil)))⟩
theorem Facts.lb_8 (T : Facts G P K mg f fd cc pp) (base : Heap) : LamB G P w K mg base 9 (G.lam 8) [] ["_law_call", "_law_bad"] b_lam8 := by
  rw [T.lam]
  exact ⟨NdefX.nscope_by (by kernel_rfl), fun cl pm cdv ctv us hl => match us, hl with | [], _ => rfl, fun cl c' fa A outer s H E hgd hr tb =>
  pm_callV (i := 0) (T.gtok (by decide)) (T.lam0 tb _) hgd hr tb (by decide) (L2.takes_of rfl rfl rfl rfl) (pma_cons (pm_lst (pma_cons (pm_lst (pma_nil)) (pma_nil))) (pma_cons (pm_var (i := 1)) (pma_nil)))⟩
theorem Facts.lb_23 (T : Facts G P K mg f fd cc pp) (base : Heap) : LamB G P w K mg base 9 (G.lam 23) [] ["_law_call", "_law_row", "_law_bad"] b_lam23 := by
  rw [T.lam]
  exact ⟨NdefX.nscope_by (by kernel_rfl), fun cl pm cdv ctv us hl => match us, hl with | [], _ => rfl, fun cl c' fa A outer s H E hgd hr tb =>
  pm_callV (i := 0) (T.gtok (by decide)) (T.lam0 tb _) hgd hr tb (by decide) (L2.takes_of rfl rfl rfl rfl) (pma_cons (pm_var (i := 1)) (pma_cons (pm_var (i := 2)) (pma_nil)))⟩
theorem Facts.lt__law_leagues_right (T : Facts G P K mg f fd cc pp) : ∀ sl i fn, ltab__law_leagues_right sl i = some fn → LamIn G P w K mg ["_law_below", "_law_far", "_law_odd", "_law_person", "_law_bad", "_law_calls", "_law_call"] (defScope st__law_leagues_right) 10 i sl fn := fun sl i fn e => by
  unfold ltab__law_leagues_right at e
  split at e
  · cases e
    exact ⟨7, [], ["_law_bad"], [4], b_lam0, by decide, rfl, T.lb_0, by rw [T.lam]; decide +kernel, by rw [T.lam]; decide +kernel, rfl⟩
  · cases e
    exact ⟨9, [], ["_law_call", "_law_bad"], [6, 4], b_lam1, by decide, rfl, T.lb_1, by rw [T.lam]; decide +kernel, by rw [T.lam]; decide +kernel, rfl⟩
  · cases e
    exact ⟨7, [], ["_law_bad"], [4], b_lam2, by decide, rfl, T.lb_2, by rw [T.lam]; decide +kernel, by rw [T.lam]; decide +kernel, rfl⟩
  · cases e
    exact ⟨7, [], ["_law_bad"], [4], b_lam3, by decide, rfl, T.lb_3, by rw [T.lam]; decide +kernel, by rw [T.lam]; decide +kernel, rfl⟩
  · cases e
    exact ⟨7, [], ["_law_bad"], [4], b_lam4, by decide, rfl, T.lb_4, by rw [T.lam]; decide +kernel, by rw [T.lam]; decide +kernel, rfl⟩
  · cases e
    exact ⟨7, [], ["_law_bad"], [4], b_lam5, by decide, rfl, T.lb_5, by rw [T.lam]; decide +kernel, by rw [T.lam]; decide +kernel, rfl⟩
  · cases e
    exact ⟨7, [], ["_law_bad"], [4], b_lam6, by decide, rfl, T.lb_6, by rw [T.lam]; decide +kernel, by rw [T.lam]; decide +kernel, rfl⟩
  · cases e
    exact ⟨9, [], ["_law_call", "_law_bad"], [6, 4], b_lam7, by decide, rfl, T.lb_7, by rw [T.lam]; decide +kernel, by rw [T.lam]; decide +kernel, rfl⟩
  · cases e
    exact ⟨9, [], ["_law_call", "_law_bad"], [6, 4], b_lam8, by decide, rfl, T.lb_8, by rw [T.lam]; decide +kernel, by rw [T.lam]; decide +kernel, rfl⟩
  · cases e
    exact ⟨8, [], ["_law_bad"], [4], b_lam9, by decide, rfl, T.lb_9, by rw [T.lam]; decide +kernel, by rw [T.lam]; decide +kernel, rfl⟩
  · cases e
    exact ⟨8, [], ["_law_bad"], [4], b_lam10, by decide, rfl, T.lb_10, by rw [T.lam]; decide +kernel, by rw [T.lam]; decide +kernel, rfl⟩
  · cases e
theorem Facts.lt__law_rest_right (T : Facts G P K mg f fd cc pp) : ∀ sl i fn, ltab__law_rest_right sl i = some fn → LamIn G P w K mg ["_law_below", "_law_far", "_law_row", "_law_ring", "_law_bad", "_law_odd", "_law_call", "_law_calls"] (defScope st__law_rest_right) 10 i sl fn := fun sl i fn e => by
  unfold ltab__law_rest_right at e
  split at e
  · cases e
    exact ⟨7, [], ["_law_row", "_law_bad"], [2, 4], b_lam11, by decide, rfl, T.lb_11, by rw [T.lam]; decide +kernel, by rw [T.lam]; decide +kernel, rfl⟩
  · cases e
    exact ⟨7, [], ["_law_row", "_law_bad"], [2, 4], b_lam12, by decide, rfl, T.lb_12, by rw [T.lam]; decide +kernel, by rw [T.lam]; decide +kernel, rfl⟩
  · cases e
    exact ⟨7, [], ["_law_row"], [2], b_lam13, by decide, rfl, T.lb_13, by rw [T.lam]; decide +kernel, by rw [T.lam]; decide +kernel, rfl⟩
  · cases e
    exact ⟨7, [], ["_law_row", "_law_bad"], [2, 4], b_lam15, by decide, rfl, T.lb_15, by rw [T.lam]; decide +kernel, by rw [T.lam]; decide +kernel, rfl⟩
  · cases e
    exact ⟨7, [], ["_law_row", "_law_bad"], [2, 4], b_lam16, by decide, rfl, T.lb_16, by rw [T.lam]; decide +kernel, by rw [T.lam]; decide +kernel, rfl⟩
  · cases e
    exact ⟨7, [], ["_law_row", "_law_bad"], [2, 4], b_lam17, by decide, rfl, T.lb_17, by rw [T.lam]; decide +kernel, by rw [T.lam]; decide +kernel, rfl⟩
  · cases e
    exact ⟨7, [], ["_law_row"], [2], b_lam18, by decide, rfl, T.lb_18, by rw [T.lam]; decide +kernel, by rw [T.lam]; decide +kernel, rfl⟩
  · cases e
    exact ⟨7, [], ["_law_ring"], [3], b_lam19, by decide, rfl, T.lb_19, by rw [T.lam]; decide +kernel, by rw [T.lam]; decide +kernel, rfl⟩
  · cases e
    exact ⟨7, [], ["_law_row", "_law_bad"], [2, 4], b_lam20, by decide, rfl, T.lb_20, by rw [T.lam]; decide +kernel, by rw [T.lam]; decide +kernel, rfl⟩
  · cases e
    exact ⟨7, [], ["_law_ring"], [3], b_lam21, by decide, rfl, T.lb_21, by rw [T.lam]; decide +kernel, by rw [T.lam]; decide +kernel, rfl⟩
  · cases e
    exact ⟨9, [], ["_law_call", "_law_row", "_law_bad"], [6, 2, 4], b_lam23, by decide, rfl, T.lb_23, by rw [T.lam]; decide +kernel, by rw [T.lam]; decide +kernel, rfl⟩
  · cases e
    exact ⟨8, [], ["_law_row", "_law_bad"], [2, 4], b_lam24, by decide, rfl, T.lb_24, by rw [T.lam]; decide +kernel, by rw [T.lam]; decide +kernel, rfl⟩
  · cases e
theorem gcells_ok {G : Gx} (hr : G.ρ = rhoOf G.ns) : ∀ s h s', gcells s h = some s' → h.s = G.ns → ∃ s1 h1 s2 h2, m_pre1 s h = .nx s1 h1 ∧ m_pre2 s1 h1 = .nx s2 h2 ∧ sameUp h.t h2.t h.n = true ∧ ∀ m m' σ σ', m.Le m' → SlR G m s σ → SlR G m' s2 σ' → SlR G m s' σ' := by
  intro s h s' e hs
  unfold gcells at e
  split at e
  · rename_i k ns
    cases e
    dsimp only at hs
    match ns, hs with
    | [], hs =>
      refine ⟨[some .scr, some (.ref 3), none, none, none], ⟨4, k, [], .nd (.nd (.nd .lf (some (.lst [.int 0, .int 1])) .lf) (some (.lst [])) .lf) (some (.lst [])) (.nd .lf (some (.lst [.int 0, .int 1])) .lf)⟩, [some .scr, some (.ref 3), none, some (.int (0 - 1 - 0 % 100000000000000000000000000000)), some (.int (1 % 100000000000000000000000000000))], ⟨4, k, [], .nd (.nd (.nd .lf (some (.lst [.int 0, .int 1])) .lf) (some (.lst [])) .lf) (some (.lst [])) (.nd .lf (some (.lst [.int 0, .int 1])) .lf)⟩, by kernel_rfl, by kernel_rfl, rfl, fun m m' σ σ' _ _ z => ?_⟩
      match z with
      | .cons h0 (.cons _ (.cons _ (.cons h3 (.cons h4 .nil)))) =>
        exact .cons (scr_s1 h0) (.cons trivial (.cons trivial (.cons (low_s1 h3 (by rw [hr, ← hs]; show _ = -1 * (0 % 100000000000000000000000000000) + -1; omega)) (.cons (low_s1 h4 (by rw [hr, ← hs]; show _ = 1 * (1 % 100000000000000000000000000000) + 0; omega)) .nil))))
    | [a], hs =>
      refine ⟨[some .scr, some (.ref 3), none, none, none], ⟨4, k, [a], .nd (.nd (.nd .lf (some (.lst [.int a, .int 0, .int 1])) .lf) (some (.lst [.int a])) .lf) (some (.lst [.int a])) (.nd .lf (some (.lst [.int 0, .int 1])) .lf)⟩, [some .scr, some (.ref 3), none, some (.int (0 - 1 - a % 100000000000000000000000000000)), some (.int (0 % 100000000000000000000000000000))], ⟨4, k, [a], .nd (.nd (.nd .lf (some (.lst [.int a, .int 0, .int 1])) .lf) (some (.lst [.int a])) .lf) (some (.lst [.int a])) (.nd .lf (some (.lst [.int 0, .int 1])) .lf)⟩, by kernel_rfl, by kernel_rfl, rfl, fun m m' σ σ' _ _ z => ?_⟩
      match z with
      | .cons h0 (.cons _ (.cons _ (.cons h3 (.cons h4 .nil)))) =>
        exact .cons (scr_s1 h0) (.cons trivial (.cons trivial (.cons (low_s1 h3 (by rw [hr, ← hs]; show _ = -1 * (a % 100000000000000000000000000000) + -1; omega)) (.cons (low_s1 h4 (by rw [hr, ← hs]; show _ = 1 * (0 % 100000000000000000000000000000) + 0; omega)) .nil))))
    | a :: b :: r, hs =>
      refine ⟨[some .scr, some (.ref 3), none, none, none], ⟨4, k, (a :: b :: r), .nd (.nd (.nd .lf (some (.lst [.int a, .int b, .int 0, .int 1])) .lf) (some (.lst [.int a, .int b])) .lf) (some (.lst [.int a, .int b])) (.nd .lf (some (.lst [.int 0, .int 1])) .lf)⟩, [some .scr, some (.ref 3), none, some (.int (0 - 1 - a % 100000000000000000000000000000)), some (.int (b % 100000000000000000000000000000))], ⟨4, k, (a :: b :: r), .nd (.nd (.nd .lf (some (.lst [.int a, .int b, .int 0, .int 1])) .lf) (some (.lst [.int a, .int b])) .lf) (some (.lst [.int a, .int b])) (.nd .lf (some (.lst [.int 0, .int 1])) .lf)⟩, by kernel_rfl, by kernel_rfl, rfl, fun m m' σ σ' _ _ z => ?_⟩
      match z with
      | .cons h0 (.cons _ (.cons _ (.cons h3 (.cons h4 .nil)))) =>
        exact .cons (scr_s1 h0) (.cons trivial (.cons trivial (.cons (low_s1 h3 (by rw [hr, ← hs]; show _ = -1 * (a % 100000000000000000000000000000) + -1; omega)) (.cons (low_s1 h4 (by rw [hr, ← hs]; show _ = 1 * (b % 100000000000000000000000000000) + 0; omega)) .nil))))
  · cases e
theorem Facts.f__law_caught (T : Facts G P K mg f fd cc pp) : FnC G P w K mg 10 11 (f 31) (fd 31) ["_law_call"] (f__law_caught) := fnC_ok (k := 10) (b := m__law_caught) 7 1 T.d__law_caught.F sc__law_caught (fun m1 L base cdv A outer s H E le tb lo hgd hr => have T := T.at m1
  pms_cons (pms_set (i := 1) sc__law_caught.nd (pm_non))
  (pms_cons (pms_try (i := 2) rfl rfl rfl sc__law_caught.nd rfl rfl ⟨by rfl, by decide, .inl T.c_TieError⟩ (L2.takes_of rfl rfl rfl rfl) (hitC_ok T.xm (by decide)) (fun W1 pn xe tk1 hp1 => pms_one (pms_expr (pm_callV0 (i := 0) (T.gtok (by decide)) lo hgd hr tb (by decide) tk1))) (fun a1 pn => pms_one (pms_set (i := 1) sc__law_caught.nd (pm_var (i := 2)))))
  (pms_cons (pms_set (i := 3) sc__law_caught.nd (pm_lst (pma_cons (pm_callB (cr_isX T.anc T.hK) (by rfl) T.z_isinstance bt_isi (pma_cons (pm_var (i := 1)) (pma_cons (pm_glob (g := 4) (by rfl) T.c_InvalidLeague) (pma_nil)))) (pma_cons (pm_callB (cr_isX T.anc T.hK) (by rfl) T.z_isinstance bt_isi (pma_cons (pm_var (i := 1)) (pma_cons (pm_glob (g := 2) (by rfl) T.c_InvalidPerson) (pma_nil)))) (pma_cons (pm_callB (cr_isX T.anc T.hK) (by rfl) T.z_isinstance bt_isi (pma_cons (pm_var (i := 1)) (pma_cons (pm_glob (g := 3) (by rfl) T.c_InvalidCouple) (pma_nil)))) (pma_nil))))))
  (pms_cons (pms_set (i := 3) sc__law_caught.nd (pm_op2 or_add (pm_var (i := 3)) (pm_lst (pma_cons (pm_callB (cr_isX T.anc T.hK) (by rfl) T.z_isinstance bt_isi (pma_cons (pm_var (i := 1)) (pma_cons (pm_glob (g := 1) (by rfl) T.c_InvalidNumber) (pma_nil)))) (pma_cons (pm_callB (cr_isX T.anc T.hK) (by rfl) T.z_isinstance bt_isi (pma_cons (pm_var (i := 1)) (pma_cons (pm_glob (g := 5) (by rfl) T.c_Unlike) (pma_nil)))) (pma_cons (pm_callB (cr_isX T.anc T.hK) (by rfl) T.z_isinstance bt_isi (pma_cons (pm_var (i := 1)) (pma_cons (pm_ty (n := .verr) (by rfl) T.z_ValueError bt_verr) (pma_nil)))) (pma_nil)))))))
  (pms_cons (pms_for (t := .tp [4, 5]) (L2.passes_of rfl) rfl (pmi_enu (by rfl) T.z_enumerate (pm_lst (pma_cons (pm_str [108, 101, 97, 103, 117, 101] (by first | rfl | decide +kernel)) (pma_cons (pm_str [112, 101, 114, 115, 111, 110] (by first | rfl | decide +kernel)) (pma_cons (pm_str [99, 111, 117, 112, 108, 101] (by first | rfl | decide +kernel)) (pma_cons (pm_str [110, 117, 109, 98, 101, 114] (by first | rfl | decide +kernel)) (pma_cons (pm_str [117, 110, 108, 105, 107, 101] (by first | rfl | decide +kernel)) (pma_nil)))))))) (pmg_tp rfl (pmgs_cons (i := 4) sc__law_caught.nd (pmgs_cons (i := 5) sc__law_caught.nd (pmgs_nil)))) (pms_one (pms_if (pmt_cmp (or_eq hr) (pm_var (i := 3)) (pm_lc (t := .nm 6) [("_law_cell", 6)] rfl sc__law_caught.nd (pmi_rng1 (by rfl) T.z_range (pm_int)) (L2.blkOk_by (by kernel_rfl)) (fun _ _ _ _ _ => pmg_nm (i := 6) sc__law_caught.nd) (fun _ _ _ _ _ => pmts_nil) (fun _ _ _ _ _ => pm_cmp (or_inS hr) (pm_var (i := 6)) (pm_tup (pma_cons (pm_var (i := 4)) (pma_cons (pm_int) (pma_nil))))))) (pms_one (pms_ret (pm_lst (pma_cons (pm_var (i := 5)) (pma_cons (pm_callB (cr_reprU (by have z := room_u hr; exact z) hgd) (by rfl) T.z_repr bt_repr (pma_cons (pm_val T.anc T.no (pm_var (i := 1))) (pma_nil))) (pma_nil)))))) (pms_nil))))
  (pms_one (pms_ret (pm_lst (pma_cons (pm_str [110, 111, 110, 101] (by first | rfl | decide +kernel)) (pma_cons (pm_str [] (by first | rfl | decide +kernel)) (pma_nil))))))))))) rfl
theorem Facts.f__law_all (T : Facts G P K mg f fd cc pp) : FnC G P w K mg 10 12 (f 32) (fd 32) ["_law_name", "_law_bad", "_law_calls"] (f__law_all) := fnC_ok (k := 11) (b := m__law_all) 5 3 T.d__law_all.F sc__law_all (fun m1 L base cdv A outer s H E le tb lo hgd hr => have T := T.at m1
  pms_cons (pms_set (i := 3) sc__law_all.nd (pm_lst (pma_cons (pm_var (i := 0)) (pma_cons (pm_callB (cr_reprU (by have z := room_u hr; exact z) hgd) (by rfl) T.z_repr bt_repr (pma_cons (pm_var (i := 1)) (pma_nil))) (pma_nil)))))
  (pms_one (pms_ret (pm_and (pm_cmp (or_eq hr) (pm_lc (t := .nm 4) [("_law_call", 4)] rfl sc__law_all.nd (pmi_seq (pm_var (i := 2))) (L2.blkOk_by (by kernel_rfl)) (fun _ _ _ _ _ => pmg_nm (i := 4) sc__law_all.nd) (fun _ _ _ _ _ => pmts_one (pmt_cmp (or_ne hr) (pm_callL (T.f__law_caught.mono (by decide)) (clo_same tb lo) hgd hr (by rfl) T.d__law_caught.m T.d__law_caught.F.kp T.b__law_caught takes0 (pma_cons (pm_var (i := 4)) (pma_nil))) (pm_var (i := 3)))) (fun _ _ _ _ _ => pm_var (i := 4))) (pm_lst (pma_nil))) (pm_one (pm_cmp (or_eq hr) (pm_callB (cr_reprU (by have z := room_u hr; exact z) hgd) (by rfl) T.z_repr bt_repr (pma_cons (pm_var (i := 1)) (pma_nil))) (pm_ix (pm_var (i := 3)) (pm_int) T.hK))))))) rfl
theorem Facts.f__law_leagues_right (T : Facts G P K mg f fd cc pp) : FnC G P w K mg 10 13 (f 48) (fd 48) ["_law_below", "_law_far"] (f__law_leagues_right) := fnM_ok (k := 12) (b := m__law_leagues_right) 7 2 T.e__law_leagues_right.F sc__law_leagues_right (fun m1 L a base A outer s H E le ha tb lo hgd hr => have T := T.at m1
  pms_cons (pms_set (i := 2) sc__law_leagues_right.nd (pm_lst (pma_cons (pm_non) (pma_cons (pm_int) (pma_cons (pm_lst (pma_nil)) (pma_cons (pm_str [108, 101, 97, 103, 117, 101] (by first | rfl | decide +kernel)) (pma_cons (pm_tup (pma_cons (pm_lst (pma_nil)) (pma_nil))) (pma_cons (pm_lst (pma_cons (pm_tup (pma_nil)) (pma_nil))) (pma_cons (pm_lst (pma_cons (pm_lst (pma_cons (pm_int) (pma_nil))) (pma_nil))) (pma_cons (pm_lst (pma_cons (pm_lst (pma_nil)) (pma_cons (pm_lst (pma_nil)) (pma_nil)))) (pma_cons (pm_lst (pma_cons (pm_lst (pma_nil)) (pma_cons (pm_lst (pma_cons (pm_int) (pma_nil))) (pma_nil)))) (pma_cons (pm_lst (pma_cons (pm_lst (pma_nil)) (pma_cons (pm_lst (pma_cons (pm_un ur_neg (pm_int)) (pma_nil))) (pma_nil)))) (pma_cons (pm_lst (pma_cons (pm_lst (pma_nil)) (pma_cons (pm_lst (pma_cons (pm_var (i := 0)) (pma_nil))) (pma_nil)))) (pma_cons (pm_lst (pma_cons (pm_lst (pma_nil)) (pma_cons (pm_lst (pma_cons (pm_op2 or_add (pm_var (i := 1)) (pm_int)) (pma_nil))) (pma_nil)))) (pma_cons (pm_lst (pma_cons (pm_lst (pma_nil)) (pma_cons (pm_lst (pma_cons (pm_bl) (pma_nil))) (pma_nil)))) (pma_cons (pm_lst (pma_cons (pm_lst (pma_nil)) (pma_cons (pm_lst (pma_cons (pm_non) (pma_nil))) (pma_nil)))) (pma_nil)))))))))))))))))
  (pms_cons (pms_set (i := 2) sc__law_leagues_right.nd (pm_op2 or_add (pm_var (i := 2)) (pm_lst (pma_cons (pm_lst (pma_cons (pm_lst (pma_nil)) (pma_cons (pm_lst (pma_cons (pm_int) (pma_nil))) (pma_cons (pm_lst (pma_cons (pm_int) (pma_nil))) (pma_nil))))) (pma_cons (pm_lst (pma_cons (pm_lst (pma_nil)) (pma_cons (pm_lst (pma_cons (pm_int) (pma_nil))) (pma_cons (pm_lst (pma_cons (pm_int) (pma_cons (pm_int) (pma_cons (pm_int) (pma_nil))))) (pma_nil))))) (pma_cons (pm_lst (pma_cons (pm_lst (pma_nil)) (pma_cons (pm_lst (pma_cons (pm_int) (pma_nil))) (pma_cons (pm_lst (pma_cons (pm_int) (pma_cons (pm_str [48] (by first | rfl | decide +kernel)) (pma_nil)))) (pma_nil))))) (pma_cons (pm_lst (pma_cons (pm_lst (pma_nil)) (pma_cons (pm_tup (pma_cons (pm_int) (pma_nil))) (pma_nil)))) (pma_cons (pm_lst (pma_cons (pm_lst (pma_nil)) (pma_cons (pm_lst (pma_cons (pm_int) (pma_nil))) (pma_cons (pm_non) (pma_nil))))) (pma_cons (pm_dict0) (pma_cons (pm_lc (t := .nm 3) [("_law_person", 3)] rfl sc__law_leagues_right.nd (pmi_rng1 (by rfl) T.z_range (pm_int)) (L2.blkOk_by (by kernel_rfl)) (fun _ _ _ _ _ => pmg_nm (i := 3) sc__law_leagues_right.nd) (fun _ _ _ _ _ => pmts_nil) (fun _ _ _ _ _ => pm_op2 or_mulS (pm_lst (pma_cons (pm_int) (pma_nil))) (pm_var (i := 3)))) (pma_nil)))))))))))
  (pms_cons (pms_for (t := .nm 4) (L2.passes_of rfl) rfl (pmi_seq (pm_var (i := 2))) (pmg_nm (i := 4) sc__law_leagues_right.nd) (pms_cons (pms_set (i := 5) sc__law_leagues_right.nd (pm_lst (pma_cons (pm_lam (i := 0) (tb _ (by rw [T.cs]; exact List.mem_of_getElem? (i := 0) rfl)) (by rw [T.tt]; exact List.mem_of_getElem? (i := 0) rfl) T.tu__law_leagues_right (by rw [T.lam]; rfl) ha) (pma_nil))))
  (pms_cons (pms_for (t := .nm 6) (L2.passes_of rfl) rfl (pmi_seq (pm_lst (pma_cons (pm_glob (g := 6) (by rfl) T.v_runs) (pma_cons (pm_glob (g := 7) (by rfl) T.v_league_class_size) (pma_cons (pm_glob (g := 8) (by rfl) T.v_leagues_by_turns) (pma_cons (pm_glob (g := 9) (by rfl) T.v_league_number) (pma_nil))))))) (pmg_nm (i := 6) sc__law_leagues_right.nd) (pms_one (pms_if (pmt_not (pmt_val (pm_callL (T.f__law_all.mono (by decide)) (clo_ext tb lo ha T.lt__law_leagues_right) hgd hr (by rfl) T.d__law_all.m T.d__law_all.F.kp T.b__law_all (L2.takes_of rfl rfl rfl rfl) (pma_cons (pm_str [108, 101, 97, 103, 117, 101] (by first | rfl | decide +kernel)) (pma_cons (pm_var (i := 4)) (pma_cons (pm_lst (pma_cons (pm_lam (i := 1) (tb _ (by rw [T.cs]; exact List.mem_of_getElem? (i := 0) rfl)) (by rw [T.tt]; exact List.mem_of_getElem? (i := 0) rfl) T.tu__law_leagues_right (by rw [T.lam]; rfl) ha) (pma_nil))) (pma_nil))))))) (pms_one (pms_ret (pm_bl))) (pms_nil))))
  (pms_cons (pms_expr (pm_append (pm_var (i := 5)) (pm_lam (i := 2) (tb _ (by rw [T.cs]; exact List.mem_of_getElem? (i := 0) rfl)) (by rw [T.tt]; exact List.mem_of_getElem? (i := 0) rfl) T.tu__law_leagues_right (by rw [T.lam]; rfl) ha)))
  (pms_cons (pms_expr (pm_append (pm_var (i := 5)) (pm_lam (i := 3) (tb _ (by rw [T.cs]; exact List.mem_of_getElem? (i := 0) rfl)) (by rw [T.tt]; exact List.mem_of_getElem? (i := 0) rfl) T.tu__law_leagues_right (by rw [T.lam]; rfl) ha)))
  (pms_cons (pms_expr (pm_append (pm_var (i := 5)) (pm_lam (i := 4) (tb _ (by rw [T.cs]; exact List.mem_of_getElem? (i := 0) rfl)) (by rw [T.tt]; exact List.mem_of_getElem? (i := 0) rfl) T.tu__law_leagues_right (by rw [T.lam]; rfl) ha)))
  (pms_cons (pms_expr (pm_append (pm_var (i := 5)) (pm_lam (i := 5) (tb _ (by rw [T.cs]; exact List.mem_of_getElem? (i := 0) rfl)) (by rw [T.tt]; exact List.mem_of_getElem? (i := 0) rfl) T.tu__law_leagues_right (by rw [T.lam]; rfl) ha)))
  (pms_cons (pms_expr (pm_append (pm_var (i := 5)) (pm_lam (i := 6) (tb _ (by rw [T.cs]; exact List.mem_of_getElem? (i := 0) rfl)) (by rw [T.tt]; exact List.mem_of_getElem? (i := 0) rfl) T.tu__law_leagues_right (by rw [T.lam]; rfl) ha)))
  (pms_cons (pms_for (t := .nm 6) (L2.passes_of rfl) rfl (pmi_seq (pm_lst (pma_cons (pm_glob (g := 10) (by rfl) T.v_are_joined_leagues) (pma_cons (pm_glob (g := 11) (by rfl) T.v_parting_people) (pma_cons (pm_glob (g := 12) (by rfl) T.v_league_turns) (pma_cons (pm_glob (g := 13) (by rfl) T.v_league_road) (pma_nil))))))) (pmg_nm (i := 6) sc__law_leagues_right.nd) (pms_cons (pms_if (pmt_not (pmt_val (pm_callL (T.f__law_all.mono (by decide)) (clo_ext tb lo ha T.lt__law_leagues_right) hgd hr (by rfl) T.d__law_all.m T.d__law_all.F.kp T.b__law_all (L2.takes_of rfl rfl rfl rfl) (pma_cons (pm_str [108, 101, 97, 103, 117, 101] (by first | rfl | decide +kernel)) (pma_cons (pm_var (i := 4)) (pma_cons (pm_lst (pma_cons (pm_lam (i := 7) (tb _ (by rw [T.cs]; exact List.mem_of_getElem? (i := 0) rfl)) (by rw [T.tt]; exact List.mem_of_getElem? (i := 0) rfl) T.tu__law_leagues_right (by rw [T.lam]; rfl) ha) (pma_nil))) (pma_nil))))))) (pms_one (pms_ret (pm_bl))) (pms_nil))
  (pms_one (pms_if (pmt_not (pmt_val (pm_callL (T.f__law_all.mono (by decide)) (clo_ext tb lo ha T.lt__law_leagues_right) hgd hr (by rfl) T.d__law_all.m T.d__law_all.F.kp T.b__law_all (L2.takes_of rfl rfl rfl rfl) (pma_cons (pm_str [108, 101, 97, 103, 117, 101] (by first | rfl | decide +kernel)) (pma_cons (pm_var (i := 4)) (pma_cons (pm_lst (pma_cons (pm_lam (i := 8) (tb _ (by rw [T.cs]; exact List.mem_of_getElem? (i := 0) rfl)) (by rw [T.tt]; exact List.mem_of_getElem? (i := 0) rfl) T.tu__law_leagues_right (by rw [T.lam]; rfl) ha) (pma_nil))) (pma_nil))))))) (pms_one (pms_ret (pm_bl))) (pms_nil)))))
  (pms_cons (pms_expr (pm_append (pm_var (i := 5)) (pm_lam (i := 9) (tb _ (by rw [T.cs]; exact List.mem_of_getElem? (i := 0) rfl)) (by rw [T.tt]; exact List.mem_of_getElem? (i := 0) rfl) T.tu__law_leagues_right (by rw [T.lam]; rfl) ha)))
  (pms_cons (pms_expr (pm_append (pm_var (i := 5)) (pm_lam (i := 10) (tb _ (by rw [T.cs]; exact List.mem_of_getElem? (i := 0) rfl)) (by rw [T.tt]; exact List.mem_of_getElem? (i := 0) rfl) T.tu__law_leagues_right (by rw [T.lam]; rfl) ha)))
  (pms_one (pms_if ((pmw_or (pmt_not (pmt_val (pm_callL (T.f__law_all.mono (by decide)) (clo_ext tb lo ha T.lt__law_leagues_right) hgd hr (by rfl) T.d__law_all.m T.d__law_all.F.kp T.b__law_all (L2.takes_of rfl rfl rfl rfl) (pma_cons (pm_str [108, 101, 97, 103, 117, 101] (by first | rfl | decide +kernel)) (pma_cons (pm_var (i := 4)) (pma_cons (pm_var (i := 5)) (pma_nil))))))) (pmw_or1 (pmt_cmp or_isNot (pm_call (T.f_is_league.mono (by decide)) hgd hr tb (by rfl) T.d_is_league.m T.d_is_league.F.kp T.b_is_league (L2.takes_of rfl rfl rfl rfl) (pma_cons (pm_var (i := 4)) (pma_nil))) (pm_bl)))).pt) (pms_one (pms_ret (pm_bl))) (pms_nil))))))))))))))
  (pms_one (pms_ret (pm_bl)))))) rfl
theorem Facts.f__law_itself (T : Facts G P K mg f fd cc pp) : FnC G P w K mg 10 11 (f 49) (fd 49) ["_law_call"] (f__law_itself) := fnC_ok (k := 10) (b := m__law_itself) 4 1 T.d__law_itself.F sc__law_itself (fun m1 L base cdv A outer s H E le tb lo hgd hr => have T := T.at m1
  pms_cons (pms_par (i := 1) (j := 2) rfl sc__law_itself.nd (pm_non) (pm_lst (pma_cons (pm_non) (pma_nil))))
  (pms_cons (pms_try (i := 3) rfl rfl rfl sc__law_itself.nd rfl rfl ⟨by rfl, by decide, .inl T.c_TieError⟩ (L2.takes_of rfl rfl rfl rfl) (hitC_ok T.xm (by decide)) (fun W1 pn xe tk1 hp1 => pms_one (pms_expr (pm_callV (i := 0) (T.gtok (by decide)) lo hgd hr tb (by decide) tk1 (pma_cons (pm_var (i := 2)) (pma_nil))))) (fun a1 pn => pms_one (pms_set (i := 1) sc__law_itself.nd (pm_var (i := 3)))))
  (pms_cons (pms_expr (pm_append (pm_var (i := 2)) (pm_int)))
  (pms_one (pms_ret (pm_and (pm_cmp or_isNot (pm_var (i := 1)) (pm_non)) (pm_one (pm_cmp (or_eq hr) (pm_callB (cr_reprU (by have z := room_u hr; exact z) hgd) (by rfl) T.z_repr bt_repr (pma_cons (pm_val T.anc T.no (pm_var (i := 1))) (pma_nil))) (pm_callB (cr_reprU (by have z := room_u hr; exact z) hgd) (by rfl) T.z_repr bt_repr (pma_cons (pm_lst (pma_cons (pm_non) (pma_cons (pm_int) (pma_nil)))) (pma_nil))))))))))) rfl
theorem Facts.f__law_rest_right (T : Facts G P K mg f fd cc pp) : FnC G P w K mg 10 13 (f 50) (fd 50) ["_law_below", "_law_far"] (f__law_rest_right) := fnM_ok (k := 12) (b := m__law_rest_right) 8 2 T.e__law_rest_right.F sc__law_rest_right (fun m1 L a base A outer s H E le ha tb lo hgd hr => have T := T.at m1
  pms_cons (pms_tgt (pm_tup (pma_cons (pm_lst (pma_cons (pm_lst (pma_nil)) (pma_cons (pm_lst (pma_cons (pm_int) (pma_nil))) (pma_cons (pm_lst (pma_cons (pm_int) (pma_cons (pm_int) (pma_nil)))) (pma_nil))))) (pma_cons (pm_lst (pma_cons (pm_lst (pma_nil)) (pma_cons (pm_lst (pma_cons (pm_int) (pma_nil))) (pma_cons (pm_lst (pma_cons (pm_int) (pma_cons (pm_int) (pma_nil)))) (pma_nil))))) (pma_nil)))) (pmg_tp rfl (pmgs_cons (i := 2) sc__law_rest_right.nd (pmgs_cons (i := 3) sc__law_rest_right.nd (pmgs_nil)))))
  (pms_cons (pms_for (t := .nm 4) (L2.passes_of rfl) rfl (pmi_seq (pm_lst (pma_cons (pm_non) (pma_cons (pm_un ur_neg (pm_int)) (pma_cons (pm_var (i := 0)) (pma_cons (pm_int) (pma_cons (pm_op2 or_add (pm_var (i := 1)) (pm_int)) (pma_cons (pm_bl) (pma_cons (pm_str [48] (by first | rfl | decide +kernel)) (pma_cons (pm_lst (pma_cons (pm_int) (pma_nil))) (pma_cons (pm_tup (pma_cons (pm_int) (pma_nil))) (pma_nil)))))))))))) (pmg_nm (i := 4) sc__law_rest_right.nd) (pms_cons (pms_if (pmt_not (pmt_val (pm_callL (T.f__law_all.mono (by decide)) (clo_ext tb lo ha T.lt__law_rest_right) hgd hr (by rfl) T.d__law_all.m T.d__law_all.F.kp T.b__law_all (L2.takes_of rfl rfl rfl rfl) (pma_cons (pm_str [112, 101, 114, 115, 111, 110] (by first | rfl | decide +kernel)) (pma_cons (pm_var (i := 4)) (pma_cons (pm_lst (pma_cons (pm_lam (i := 11) (tb _ (by rw [T.cs]; exact List.mem_of_getElem? (i := 1) rfl)) (by rw [T.tt]; exact List.mem_of_getElem? (i := 1) rfl) T.tu__law_rest_right (by rw [T.lam]; rfl) ha) (pma_nil))) (pma_nil))))))) (pms_one (pms_ret (pm_bl))) (pms_nil))
  (pms_one (pms_if (pmt_not (pmt_val (pm_callL (T.f__law_all.mono (by decide)) (clo_ext tb lo ha T.lt__law_rest_right) hgd hr (by rfl) T.d__law_all.m T.d__law_all.F.kp T.b__law_all (L2.takes_of rfl rfl rfl rfl) (pma_cons (pm_str [112, 101, 114, 115, 111, 110] (by first | rfl | decide +kernel)) (pma_cons (pm_var (i := 4)) (pma_cons (pm_lst (pma_cons (pm_lam (i := 12) (tb _ (by rw [T.cs]; exact List.mem_of_getElem? (i := 1) rfl)) (by rw [T.tt]; exact List.mem_of_getElem? (i := 1) rfl) T.tu__law_rest_right (by rw [T.lam]; rfl) ha) (pma_nil))) (pma_nil))))))) (pms_one (pms_ret (pm_bl))) (pms_nil)))))
  (pms_cons (pms_if (pmt_not (pmt_val (pm_callL (T.f__law_all.mono (by decide)) (clo_ext tb lo ha T.lt__law_rest_right) hgd hr (by rfl) T.d__law_all.m T.d__law_all.F.kp T.b__law_all (L2.takes_of rfl rfl rfl rfl) (pma_cons (pm_str [112, 101, 114, 115, 111, 110] (by first | rfl | decide +kernel)) (pma_cons (pm_int) (pma_cons (pm_lst (pma_cons (pm_lam (i := 13) (tb _ (by rw [T.cs]; exact List.mem_of_getElem? (i := 1) rfl)) (by rw [T.tt]; exact List.mem_of_getElem? (i := 1) rfl) T.tu__law_rest_right (by rw [T.lam]; rfl) ha) (pma_nil))) (pma_nil))))))) (pms_one (pms_ret (pm_bl))) (pms_nil))
  (pms_cons (pms_if (pmt_not (pmt_val (pm_callL (T.f__law_all.mono (by decide)) (clo_ext tb lo ha T.lt__law_rest_right) hgd hr (by rfl) T.d__law_all.m T.d__law_all.F.kp T.b__law_all (L2.takes_of rfl rfl rfl rfl) (pma_cons (pm_str [112, 101, 114, 115, 111, 110] (by first | rfl | decide +kernel)) (pma_cons (pm_int) (pma_cons (pm_lst (pma_cons (pm_lam (i := 14) (tb _ (by rw [T.cs]; exact List.mem_of_getElem? (i := 1) rfl)) (by rw [T.tt]; exact List.mem_of_getElem? (i := 1) rfl) T.tu__law_rest_right (by rw [T.lam]; rfl) (by show noFree _ = true; decide +kernel)) (pma_nil))) (pma_nil))))))) (pms_one (pms_ret (pm_bl))) (pms_nil))
  (pms_cons (pms_set (i := 5) sc__law_rest_right.nd (pm_lst (pma_cons (pm_non) (pma_cons (pm_int) (pma_cons (pm_tup (pma_cons (pm_int) (pma_nil))) (pma_cons (pm_tup (pma_cons (pm_int) (pma_cons (pm_int) (pma_nil)))) (pma_cons (pm_tup (pma_cons (pm_int) (pma_cons (pm_int) (pma_nil)))) (pma_cons (pm_lst (pma_cons (pm_int) (pma_cons (pm_int) (pma_nil)))) (pma_cons (pm_tup (pma_cons (pm_int) (pma_cons (pm_int) (pma_nil)))) (pma_cons (pm_tup (pma_cons (pm_un ur_neg (pm_int)) (pma_cons (pm_int) (pma_nil)))) (pma_cons (pm_tup (pma_cons (pm_int) (pma_cons (pm_var (i := 0)) (pma_nil)))) (pma_cons (pm_tup (pma_cons (pm_int) (pma_cons (pm_op2 or_add (pm_var (i := 1)) (pm_int)) (pma_nil)))) (pma_cons (pm_tup (pma_cons (pm_int) (pma_cons (pm_bl) (pma_nil)))) (pma_cons (pm_tup (pma_cons (pm_int) (pma_cons (pm_non) (pma_nil)))) (pma_cons (pm_tup (pma_cons (pm_bl) (pma_cons (pm_int) (pma_nil)))) (pma_cons (pm_tup (pma_cons (pm_int) (pma_cons (pm_int) (pma_cons (pm_int) (pma_nil))))) (pma_cons (pm_str [48, 49] (by first | rfl | decide +kernel)) (pma_cons (pm_dict0) (pma_nil)))))))))))))))))))
  (pms_cons (pms_for (t := .nm 4) (L2.passes_of rfl) rfl (pmi_seq (pm_var (i := 5))) (pmg_nm (i := 4) sc__law_rest_right.nd) (pms_cons (pms_if (pmt_not (pmt_val (pm_callL (T.f__law_all.mono (by decide)) (clo_ext tb lo ha T.lt__law_rest_right) hgd hr (by rfl) T.d__law_all.m T.d__law_all.F.kp T.b__law_all (L2.takes_of rfl rfl rfl rfl) (pma_cons (pm_str [99, 111, 117, 112, 108, 101] (by first | rfl | decide +kernel)) (pma_cons (pm_var (i := 4)) (pma_cons (pm_lst (pma_cons (pm_lam (i := 15) (tb _ (by rw [T.cs]; exact List.mem_of_getElem? (i := 1) rfl)) (by rw [T.tt]; exact List.mem_of_getElem? (i := 1) rfl) T.tu__law_rest_right (by rw [T.lam]; rfl) ha) (pma_nil))) (pma_nil))))))) (pms_one (pms_ret (pm_bl))) (pms_nil))
  (pms_cons (pms_if (pmt_not (pmt_val (pm_callL (T.f__law_all.mono (by decide)) (clo_ext tb lo ha T.lt__law_rest_right) hgd hr (by rfl) T.d__law_all.m T.d__law_all.F.kp T.b__law_all (L2.takes_of rfl rfl rfl rfl) (pma_cons (pm_str [99, 111, 117, 112, 108, 101] (by first | rfl | decide +kernel)) (pma_cons (pm_var (i := 4)) (pma_cons (pm_lst (pma_cons (pm_lam (i := 16) (tb _ (by rw [T.cs]; exact List.mem_of_getElem? (i := 1) rfl)) (by rw [T.tt]; exact List.mem_of_getElem? (i := 1) rfl) T.tu__law_rest_right (by rw [T.lam]; rfl) ha) (pma_nil))) (pma_nil))))))) (pms_one (pms_ret (pm_bl))) (pms_nil))
  (pms_one (pms_if (pmt_not (pmt_val (pm_callL (T.f__law_all.mono (by decide)) (clo_ext tb lo ha T.lt__law_rest_right) hgd hr (by rfl) T.d__law_all.m T.d__law_all.F.kp T.b__law_all (L2.takes_of rfl rfl rfl rfl) (pma_cons (pm_str [99, 111, 117, 112, 108, 101] (by first | rfl | decide +kernel)) (pma_cons (pm_var (i := 4)) (pma_cons (pm_lst (pma_cons (pm_lam (i := 17) (tb _ (by rw [T.cs]; exact List.mem_of_getElem? (i := 1) rfl)) (by rw [T.tt]; exact List.mem_of_getElem? (i := 1) rfl) T.tu__law_rest_right (by rw [T.lam]; rfl) ha) (pma_nil))) (pma_nil))))))) (pms_one (pms_ret (pm_bl))) (pms_nil))))))
  (pms_cons (pms_if (pmt_not (pmt_val (pm_callL (T.f__law_all.mono (by decide)) (clo_ext tb lo ha T.lt__law_rest_right) hgd hr (by rfl) T.d__law_all.m T.d__law_all.F.kp T.b__law_all (L2.takes_of rfl rfl rfl rfl) (pma_cons (pm_str [99, 111, 117, 112, 108, 101] (by first | rfl | decide +kernel)) (pma_cons (pm_tup (pma_cons (pm_int) (pma_cons (pm_int) (pma_nil)))) (pma_cons (pm_lst (pma_cons (pm_lam (i := 18) (tb _ (by rw [T.cs]; exact List.mem_of_getElem? (i := 1) rfl)) (by rw [T.tt]; exact List.mem_of_getElem? (i := 1) rfl) T.tu__law_rest_right (by rw [T.lam]; rfl) ha) (pma_nil))) (pma_nil))))))) (pms_one (pms_ret (pm_bl))) (pms_nil))
  (pms_cons (pms_if (pmt_not (pmt_val (pm_callL (T.f__law_all.mono (by decide)) (clo_ext tb lo ha T.lt__law_rest_right) hgd hr (by rfl) T.d__law_all.m T.d__law_all.F.kp T.b__law_all (L2.takes_of rfl rfl rfl rfl) (pma_cons (pm_str [99, 111, 117, 112, 108, 101] (by first | rfl | decide +kernel)) (pma_cons (pm_tup (pma_cons (pm_int) (pma_cons (pm_int) (pma_nil)))) (pma_cons (pm_lst (pma_cons (pm_lam (i := 19) (tb _ (by rw [T.cs]; exact List.mem_of_getElem? (i := 1) rfl)) (by rw [T.tt]; exact List.mem_of_getElem? (i := 1) rfl) T.tu__law_rest_right (by rw [T.lam]; rfl) ha) (pma_nil))) (pma_nil))))))) (pms_one (pms_ret (pm_bl))) (pms_nil))
  (pms_cons (pms_for (t := .nm 4) (L2.passes_of rfl) rfl (pmi_seq (pm_lst (pma_cons (pm_non) (pma_cons (pm_un ur_neg (pm_int)) (pma_cons (pm_var (i := 0)) (pma_cons (pm_int) (pma_cons (pm_op2 or_add (pm_var (i := 1)) (pm_int)) (pma_cons (pm_bl) (pma_cons (pm_str [48] (by first | rfl | decide +kernel)) (pma_cons (pm_lst (pma_cons (pm_int) (pma_nil))) (pma_nil))))))))))) (pmg_nm (i := 4) sc__law_rest_right.nd) (pms_one (pms_if (pmt_not (pmt_val (pm_callL (T.f__law_all.mono (by decide)) (clo_ext tb lo ha T.lt__law_rest_right) hgd hr (by rfl) T.d__law_all.m T.d__law_all.F.kp T.b__law_all (L2.takes_of rfl rfl rfl rfl) (pma_cons (pm_str [110, 117, 109, 98, 101, 114] (by first | rfl | decide +kernel)) (pma_cons (pm_var (i := 4)) (pma_cons (pm_lst (pma_cons (pm_lam (i := 20) (tb _ (by rw [T.cs]; exact List.mem_of_getElem? (i := 1) rfl)) (by rw [T.tt]; exact List.mem_of_getElem? (i := 1) rfl) T.tu__law_rest_right (by rw [T.lam]; rfl) ha) (pma_nil))) (pma_nil))))))) (pms_one (pms_ret (pm_bl))) (pms_nil))))
  (pms_cons (pms_if (pmt_not (pmt_val (pm_callL (T.f__law_all.mono (by decide)) (clo_ext tb lo ha T.lt__law_rest_right) hgd hr (by rfl) T.d__law_all.m T.d__law_all.F.kp T.b__law_all (L2.takes_of rfl rfl rfl rfl) (pma_cons (pm_str [110, 117, 109, 98, 101, 114] (by first | rfl | decide +kernel)) (pma_cons (pm_int) (pma_cons (pm_lst (pma_cons (pm_lam (i := 21) (tb _ (by rw [T.cs]; exact List.mem_of_getElem? (i := 1) rfl)) (by rw [T.tt]; exact List.mem_of_getElem? (i := 1) rfl) T.tu__law_rest_right (by rw [T.lam]; rfl) ha) (pma_nil))) (pma_nil))))))) (pms_one (pms_ret (pm_bl))) (pms_nil))
  (pms_cons (pms_if (pmt_not (pmt_val (pm_callL (T.f__law_all.mono (by decide)) (clo_ext tb lo ha T.lt__law_rest_right) hgd hr (by rfl) T.d__law_all.m T.d__law_all.F.kp T.b__law_all (L2.takes_of rfl rfl rfl rfl) (pma_cons (pm_str [110, 117, 109, 98, 101, 114] (by first | rfl | decide +kernel)) (pma_cons (pm_int) (pma_cons (pm_lst (pma_cons (pm_lam (i := 22) (tb _ (by rw [T.cs]; exact List.mem_of_getElem? (i := 1) rfl)) (by rw [T.tt]; exact List.mem_of_getElem? (i := 1) rfl) T.tu__law_rest_right (by rw [T.lam]; rfl) (by show noFree _ = true; decide +kernel)) (pma_nil))) (pma_nil))))))) (pms_one (pms_ret (pm_bl))) (pms_nil))
  (pms_cons (pms_for (t := .nm 4) (L2.passes_of rfl) rfl (pmi_seq (pm_lst (pma_cons (pm_lst (pma_cons (pm_lst (pma_nil)) (pma_nil))) (pma_cons (pm_lst (pma_cons (pm_lst (pma_nil)) (pma_cons (pm_lst (pma_cons (pm_int) (pma_nil))) (pma_nil)))) (pma_cons (pm_lst (pma_cons (pm_lst (pma_nil)) (pma_cons (pm_lst (pma_cons (pm_int) (pma_nil))) (pma_cons (pm_lst (pma_cons (pm_int) (pma_cons (pm_int) (pma_nil)))) (pma_cons (pm_lst (pma_cons (pm_int) (pma_cons (pm_int) (pma_cons (pm_int) (pma_nil))))) (pma_nil)))))) (pma_nil)))))) (pmg_nm (i := 4) sc__law_rest_right.nd) (pms_cons (pms_for (t := .nm 6) (L2.passes_of rfl) rfl (pmi_seq (pm_lst (pma_cons (pm_glob (g := 10) (by rfl) T.v_are_joined_leagues) (pma_cons (pm_glob (g := 11) (by rfl) T.v_parting_people) (pma_cons (pm_glob (g := 12) (by rfl) T.v_league_turns) (pma_cons (pm_glob (g := 13) (by rfl) T.v_league_road) (pma_nil))))))) (pmg_nm (i := 6) sc__law_rest_right.nd) (pms_one (pms_if (pmt_not (pmt_val (pm_callL (T.f__law_all.mono (by decide)) (clo_ext tb lo ha T.lt__law_rest_right) hgd hr (by rfl) T.d__law_all.m T.d__law_all.F.kp T.b__law_all (L2.takes_of rfl rfl rfl rfl) (pma_cons (pm_str [117, 110, 108, 105, 107, 101] (by first | rfl | decide +kernel)) (pma_cons (pm_var (i := 4)) (pma_cons (pm_lst (pma_cons (pm_lam (i := 23) (tb _ (by rw [T.cs]; exact List.mem_of_getElem? (i := 1) rfl)) (by rw [T.tt]; exact List.mem_of_getElem? (i := 1) rfl) T.tu__law_rest_right (by rw [T.lam]; rfl) ha) (pma_nil))) (pma_nil))))))) (pms_one (pms_ret (pm_bl))) (pms_nil))))
  (pms_one (pms_if (pmt_not (pmt_val (pm_callL (T.f__law_all.mono (by decide)) (clo_ext tb lo ha T.lt__law_rest_right) hgd hr (by rfl) T.d__law_all.m T.d__law_all.F.kp T.b__law_all (L2.takes_of rfl rfl rfl rfl) (pma_cons (pm_str [117, 110, 108, 105, 107, 101] (by first | rfl | decide +kernel)) (pma_cons (pm_var (i := 4)) (pma_cons (pm_lst (pma_cons (pm_lam (i := 24) (tb _ (by rw [T.cs]; exact List.mem_of_getElem? (i := 1) rfl)) (by rw [T.tt]; exact List.mem_of_getElem? (i := 1) rfl) T.tu__law_rest_right (by rw [T.lam]; rfl) ha) (pma_nil))) (pma_nil))))))) (pms_one (pms_ret (pm_bl))) (pms_nil)))))
  (pms_cons (pms_set (i := 7) sc__law_rest_right.nd (pm_lst (pma_cons (pm_lam (i := 25) (tb _ (by rw [T.cs]; exact List.mem_of_getElem? (i := 1) rfl)) (by rw [T.tt]; exact List.mem_of_getElem? (i := 1) rfl) T.tu__law_rest_right (by rw [T.lam]; rfl) (by show noFree _ = true; decide +kernel)) (pma_nil))))
  (pms_cons (pms_expr (pm_append (pm_var (i := 7)) (pm_lam (i := 26) (tb _ (by rw [T.cs]; exact List.mem_of_getElem? (i := 1) rfl)) (by rw [T.tt]; exact List.mem_of_getElem? (i := 1) rfl) T.tu__law_rest_right (by rw [T.lam]; rfl) (by show noFree _ = true; decide +kernel))))
  (pms_cons (pms_expr (pm_append (pm_var (i := 7)) (pm_lam (i := 27) (tb _ (by rw [T.cs]; exact List.mem_of_getElem? (i := 1) rfl)) (by rw [T.tt]; exact List.mem_of_getElem? (i := 1) rfl) T.tu__law_rest_right (by rw [T.lam]; rfl) (by show noFree _ = true; decide +kernel))))
  (pms_cons (pms_expr (pm_append (pm_var (i := 7)) (pm_lam (i := 28) (tb _ (by rw [T.cs]; exact List.mem_of_getElem? (i := 1) rfl)) (by rw [T.tt]; exact List.mem_of_getElem? (i := 1) rfl) T.tu__law_rest_right (by rw [T.lam]; rfl) (by show noFree _ = true; decide +kernel))))
  (pms_cons (pms_expr (pm_append (pm_var (i := 7)) (pm_lam (i := 29) (tb _ (by rw [T.cs]; exact List.mem_of_getElem? (i := 1) rfl)) (by rw [T.tt]; exact List.mem_of_getElem? (i := 1) rfl) T.tu__law_rest_right (by rw [T.lam]; rfl) (by show noFree _ = true; decide +kernel))))
  (pms_one (pms_ret (pm_cmp (or_eq hr) (pm_lc (t := .nm 6) [("_law_call", 6)] rfl sc__law_rest_right.nd (pmi_seq (pm_var (i := 7))) (L2.blkOk_by (by kernel_rfl)) (fun _ _ _ _ _ => pmg_nm (i := 6) sc__law_rest_right.nd) (fun _ _ _ _ _ => pmts_one (pmt_not (pmt_val (pm_callL (T.f__law_itself.mono (by decide)) (clo_same tb lo) hgd hr (by rfl) T.d__law_itself.m T.d__law_itself.F.kp T.b__law_itself takes0 (pma_cons (pm_var (i := 6)) (pma_nil)))))) (fun _ _ _ _ _ => pm_var (i := 6))) (pm_lst (pma_nil)))))))))))))))))))))) rfl
theorem Facts.f_law (T : Facts G P K mg f fd cc pp) : FnC G P w K mg 10 14 (f 52) (fd 52) ["_law_script"] (f_law) := fnC_ok (k := 13) (b := m_law) 5 1 T.d_law.F sc_law (fun m1 L base cdv A outer s H E le tb lo hgd hr => have T := T.at m1
  pms_pre (g := gcells) (a1 := m_pre1) (a2 := m_pre2) (pms_set (i := 1) sc_law.nd (pm_op2 or_add (pm_lc (t := .nm 2) [("_law_cell", 2)] rfl sc_law.nd (pmi_seq (pm_cut (pm_var (i := 0)) (pmo_none) (pmo_some (pm_int)) T.hK)) (L2.blkOk_by (by kernel_rfl)) (fun _ _ _ _ _ => pmg_nm (i := 2) sc_law.nd) (fun _ _ _ _ _ => pmts_nil) (fun _ _ _ _ _ => pm_callTy cr_int (by rfl) T.z_int bt_int (pma_cons (pm_var (i := 2)) (pma_nil)))) (pm_lst (pma_cons (pm_int) (pma_cons (pm_int) (pma_nil))))))
  (pms_par (i := 3) (j := 4) rfl sc_law.nd (pm_op2 or_sub (pm_op2 or_sub (pm_int) (pm_int)) (pm_op2 or_modS (pm_callTy cr_int (by rfl) T.z_int bt_int (pma_cons (pm_ix (pm_var (i := 1)) (pm_int) T.hK) (pma_nil))) (pm_op2 or_pow (pm_int) (pm_int)))) (pm_op2 or_modS (pm_callTy cr_int (by rfl) T.z_int bt_int (pma_cons (pm_ix (pm_var (i := 1)) (pm_int) T.hK) (pma_nil))) (pm_op2 or_pow (pm_int) (pm_int))))
  (pms_one (pms_ret (pm_and (pm_callL (T.f__law_leagues_right.mono (by decide)).cut (clo_same tb lo) hgd hr (by rfl) T.d__law_leagues_right.m T.d__law_leagues_right.F.kp T.b__law_leagues_right (L2.takes_of rfl rfl rfl rfl) (pma_cons (pm_var (i := 3)) (pma_cons (pm_var (i := 4)) (pma_nil)))) (pm_and (pm_callL (T.f__law_rest_right.mono (by decide)).cut (clo_same tb lo) hgd hr (by rfl) T.d__law_rest_right.m T.d__law_rest_right.F.kp T.b__law_rest_right (L2.takes_of rfl rfl rfl rfl) (pma_cons (pm_var (i := 3)) (pma_cons (pm_var (i := 4)) (pma_nil)))) (pm_one (pm_call0 (T.f__law_named_right.mono (by decide)).cut hgd hr tb (by rfl) T.d__law_named_right.m T.d__law_named_right.F.kp T.b__law_named_right (L2.takes_of rfl rfl rfl rfl))))))) (gcells_ok T.rho)) rfl
end

open L2 (Room Binds)
theorem run_f (ns : List Int) : chk (f_law (L0 lt0) [.scr] (AH.nil ns)) = true := vc_fn rfl (vc_pre rfl (vc_retc (vc_and (ru0_0 ns) (vc_and (ru0_1 ns) (ru0_2 ns)))))
theorem law_all {P : Program} {K : PySem.W.Frag} {w : World} {mg : Str → Option Value} {f : Nat → Addr} {fd : Nat → FuncData} {cc pp : Nat → Addr} {gs : List Addr} (T : ∀ G : Gx, G.K = K → G.ga = gaOf gs → G.lam = lamTab → G.tt = ttOf pp → G.cs = csOf cc pp → G.ρ = rhoOf G.ns → Facts G P K mg f fd cc pp) (a : Addr) (ns : List Int) :
    ∃ (G : Gx) (kl : Nat) (L : Lm) (fn : Lm → Fn), (G.m0 = ⟨[], []⟩ ∧ G.sa = a ∧ G.K = K ∧ G.ns = ns) ∧ (G.tt = ttOf pp ∧ G.cs = csOf cc pp) ∧ FnC G P w K mg kl 14 (f 52) (fd 52) ["_law_script"] fn ∧ (∀ base m, Tbs G base mg → LamsOK G P w K mg base kl m L) ∧ ∃ h', fn L [.scr] (AH.nil ns) = .ok (.bl true) h' := by
  let G : Gx := { K := K, sa := a, ga := gaOf gs, ρ := rhoOf ns, ρ0 := rhoOf_ok ns, rw := fun _ => 0, ns := ns, m0 := ⟨[], []⟩, tt := ttOf pp, cs := csOf cc pp, lam := lamTab }
  have TG : Facts G P K mg f fd cc pp := T G rfl rfl rfl rfl rfl rfl
  exact ⟨G, 10, L0 lt0, f_law, ⟨rfl, rfl, rfl, rfl⟩, ⟨rfl, rfl⟩, TG.f_law, fun base m tb => (TG.lam0 tb m).mono (by decide), chk_ok (run_f ns)⟩
theorem law_fin {P : Program} {K : PySem.W.Frag} {w : World} {h : Heap} {q : Program} {mg : Str → Option Value} {fa : Addr} {C0 C1 C2 C3 C4 C5 c0 c1 c2 p0 p1 p2 : Addr} (X : K.In h) (Gn : h.Ns mainGlobals mg) (hfa : mg "law" = some (.ref fa)) (CO : CodesOK q K h)
    (hbm : ∃ (bm : Addr) (ob : Obj), mg "__builtins__" = some (.ref bm) ∧ bm ≠ builtinsNs ∧ h.get? bm = some ob ∧ ob.cls = .type "module" ∧ ob.dict = some builtinsNs ∧ ob.data = .plain)
    (a0 : PySem.W.nsIn K mainGlobals "TieError" = some (some (.ref C0)))
    (a1 : PySem.W.nsIn K mainGlobals "InvalidNumber" = some (some (.ref C1)))
    (a2 : PySem.W.nsIn K mainGlobals "InvalidPerson" = some (some (.ref C2)))
    (a3 : PySem.W.nsIn K mainGlobals "InvalidCouple" = some (some (.ref C3)))
    (a4 : PySem.W.nsIn K mainGlobals "InvalidLeague" = some (some (.ref C4)))
    (a5 : PySem.W.nsIn K mainGlobals "Unlike" = some (some (.ref C5)))
    (b : ancB K [C0, C1, C2, C3, C4, C5] nC anc = true)
    (xm : exmB K [C0, C1, C2, C3, C4, C5] nC anc = true)
    (x0 : PySem.W.excIn K C0 PySem.HandSPX.veTail "ValueError.__new__" = true)
    (t1 : ∃ fI qual, PySem.TieX.TieTxt P K C1 fI qual)
    (t2 : ∃ fI qual, PySem.TieX.TieTxt P K C2 fI qual)
    (t3 : ∃ fI qual, PySem.TieX.TieTxt P K C3 fI qual)
    (t4 : ∃ fI qual, PySem.TieX.TieTxt P K C4 fI qual)
    (t5 : ∃ fI qual, PySem.TieX.TieTxt P K C5 fI qual)
    (z_ValueError : PySem.W.nsIn K mainGlobals "ValueError" = some none)
    (z_bool : PySem.W.nsIn K mainGlobals "bool" = some none)
    (z_enumerate : PySem.W.nsIn K mainGlobals "enumerate" = some none)
    (z_int : PySem.W.nsIn K mainGlobals "int" = some none)
    (z_isinstance : PySem.W.nsIn K mainGlobals "isinstance" = some none)
    (z_len : PySem.W.nsIn K mainGlobals "len" = some none)
    (z_list : PySem.W.nsIn K mainGlobals "list" = some none)
    (z_max : PySem.W.nsIn K mainGlobals "max" = some none)
    (z_min : PySem.W.nsIn K mainGlobals "min" = some none)
    (z_range : PySem.W.nsIn K mainGlobals "range" = some none)
    (z_repr : PySem.W.nsIn K mainGlobals "repr" = some none)
    (z_sorted : PySem.W.nsIn K mainGlobals "sorted" = some none)
    (z_super : PySem.W.nsIn K mainGlobals "super" = some none)
    (z_tuple : PySem.W.nsIn K mainGlobals "tuple" = some none)
    (g_MOST_PEOPLE : ∃ t, PySem.W.nsIn K mainGlobals "MOST_PEOPLE" = some (some (.int 40 t)))
    (tb0 : PySem.W.tabIn K "_law_leagues_right" = some (c0, p0)) (ro0 : ((PyProof.Rows.recsOf q).find? fun e => e.name == ("_law_leagues_right" : Str)).isSome = true) (no0 : K.lookup p0 = none)
    (tb1 : PySem.W.tabIn K "_law_rest_right" = some (c1, p1)) (ro1 : ((PyProof.Rows.recsOf q).find? fun e => e.name == ("_law_rest_right" : Str)).isSome = true) (no1 : K.lookup p1 = none)
    (tb2 : PySem.W.tabIn K "runs_of" = some (c2, p2)) (ro2 : ((PyProof.Rows.recsOf q).find? fun e => e.name == ("runs_of" : Str)).isSome = true) (no2 : K.lookup p2 = none)
    (nd : ([p0, p1, p2] : List Addr).Nodup)
    (d0 : ∃ f fd, Df K mg "is_whole" "is_whole" st_is_whole f fd)
    (d1 : ∃ f fd, Df K mg "is_between" "is_between" st_is_between f fd)
    (d2 : ∃ f fd, Df K mg "are_ties" "are_ties" st_are_ties f fd)
    (d3 : ∃ f fd, Df K mg "is_company_value" "is_company_value" st_is_company_value f fd)
    (d4 : ∃ f fd, Df K mg "is_league_value" "is_league_value" st_is_league_value f fd)
    (d5 : ∃ f fd, Df K mg "check_league" "check_league" st_check_league f fd)
    (d6 : ∃ f fd, Df K mg "won" "won" st_won f fd)
    (d7 : ∃ f fd, Df K mg "are_alike" "are_alike" st_are_alike f fd)
    (d8 : ∃ f fd, Df K mg "alike_in" "alike_in" st_alike_in f fd)
    (d9 : ∃ f fd, DfC K mg "runs_of" "runs_of" st_runs_of f fd c2)
    (d10 : ∃ f fd, Df K mg "runs" "runs" st_runs f fd)
    (d11 : ∃ f fd, Df K mg "factorial_of" "factorial_of" st_factorial_of f fd)
    (d12 : ∃ f fd, Df K mg "size_of" "size_of" st_size_of f fd)
    (d13 : ∃ f fd, Df K mg "league_class_size" "league_class_size" st_league_class_size f fd)
    (d14 : ∃ f fd, Df K mg "product_of" "product_of" st_product_of f fd)
    (d15 : ∃ f fd, Df K mg "leagues_by_turns" "leagues_by_turns" st_leagues_by_turns f fd)
    (d16 : ∃ f fd, Df K mg "steps_of" "steps_of" st_steps_of f fd)
    (d17 : ∃ f fd, Df K mg "laid_rows" "laid_rows" st_laid_rows f fd)
    (d18 : ∃ f fd, Df K mg "league_number" "league_number" st_league_number f fd)
    (d19 : ∃ f fd, Df K mg "check_two" "check_two" st_check_two f fd)
    (d20 : ∃ f fd, Df K mg "couples_of" "couples_of" st_couples_of f fd)
    (d21 : ∃ f fd, Df K mg "unlike_results" "unlike_results" st_unlike_results f fd)
    (d22 : ∃ f fd, Df K mg "are_joined_of" "are_joined_of" st_are_joined_of f fd)
    (d23 : ∃ f fd, Df K mg "are_joined_leagues" "are_joined_leagues" st_are_joined_leagues f fd)
    (d24 : ∃ f fd, Df K mg "lots_of" "lots_of" st_lots_of f fd)
    (d25 : ∃ f fd, Df K mg "tie_of" "tie_of" st_tie_of f fd)
    (d26 : ∃ f fd, Df K mg "among_of" "among_of" st_among_of f fd)
    (d27 : ∃ f fd, Df K mg "parting_people" "parting_people" st_parting_people f fd)
    (d28 : ∃ f fd, Df K mg "league_turns" "league_turns" st_league_turns f fd)
    (d29 : ∃ f fd, Df K mg "league_road" "league_road" st_league_road f fd)
    (d30 : ∃ f fd, Df K mg "league_couples" "league_couples" st_league_couples f fd)
    (d31 : ∃ f fd, Df K mg "_law_caught" "_law_caught" st__law_caught f fd)
    (d32 : ∃ f fd, Df K mg "_law_all" "_law_all" st__law_all f fd)
    (d33 : ∃ f fd, Df K mg "is_person" "is_person" st_is_person f fd)
    (d34 : ∃ f fd, Df K mg "check_person" "check_person" st_check_person f fd)
    (d35 : ∃ f fd, Df K mg "beats" "beats" st_beats f fd)
    (d36 : ∃ f fd, Df K mg "kept_rows" "kept_rows" st_kept_rows f fd)
    (d37 : ∃ f fd, Df K mg "turned_of" "turned_of" st_turned_of f fd)
    (d38 : ∃ f fd, Df K mg "is_couple" "is_couple" st_is_couple f fd)
    (d39 : ∃ f fd, Df K mg "turned" "turned" st_turned f fd)
    (d40 : ∃ f fd, Df K mg "check_couple" "check_couple" st_check_couple f fd)
    (d41 : ∃ f fd, Df K mg "is_sure_result" "is_sure_result" st_is_sure_result f fd)
    (d42 : ∃ f fd, Df K mg "lots_with" "lots_with" st_lots_with f fd)
    (d43 : ∃ f fd, Df K mg "sure_people" "sure_people" st_sure_people f fd)
    (d44 : ∃ f fd, Df K mg "check_number" "check_number" st_check_number f fd)
    (d45 : ∃ f fd, Df K mg "league_at" "league_at" st_league_at f fd)
    (d46 : ∃ f fd, Df K mg "is_league_road" "is_league_road" st_is_league_road f fd)
    (d47 : ∃ f fd, Df K mg "is_league" "is_league" st_is_league f fd)
    (d48 : ∃ f fd, DfC K mg "_law_leagues_right" "_law_leagues_right" st__law_leagues_right f fd c0)
    (d49 : ∃ f fd, Df K mg "_law_itself" "_law_itself" st__law_itself f fd)
    (d50 : ∃ f fd, DfC K mg "_law_rest_right" "_law_rest_right" st__law_rest_right f fd c1)
    (d51 : ∃ f fd, Df K mg "_law_named_right" "_law_named_right" st__law_named_right f fd)
    (d52 : ∃ f fd, Df K mg "law" "law" st_law f fd)
    : ∃ fd : FuncData, (∀ (s : Shared) (u : Value), BindsTo s fd ⟨[u], []⟩ [("_law_script", u)]) ∧ ∀ (a : Addr) (ns : List Int), ns.length ≤ 63 → ∃ (G : Gx) (kl : Nat) (L : Lm) (fn : Lm → Fn), (G.m0 = ⟨[], []⟩ ∧ G.sa = a ∧ G.K = K ∧ G.ns = ns) ∧ TabSt K mg G.cs G.tt h ∧ FnC G P w K mg kl 14 fa fd ["_law_script"] fn ∧ (∀ base m, Tbs G base mg → LamsOK G P w K mg base kl m L) ∧ ∃ h', fn L [.scr] (AH.nil ns) = .ok (.bl true) h' := by
  obtain ⟨f0, fd0, d0⟩ := d0
  obtain ⟨f1, fd1, d1⟩ := d1
  obtain ⟨f2, fd2, d2⟩ := d2
  obtain ⟨f3, fd3, d3⟩ := d3
  obtain ⟨f4, fd4, d4⟩ := d4
  obtain ⟨f5, fd5, d5⟩ := d5
  obtain ⟨f6, fd6, d6⟩ := d6
  obtain ⟨f7, fd7, d7⟩ := d7
  obtain ⟨f8, fd8, d8⟩ := d8
  obtain ⟨f9, fd9, d9⟩ := d9
  obtain ⟨f10, fd10, d10⟩ := d10
  obtain ⟨f11, fd11, d11⟩ := d11
  obtain ⟨f12, fd12, d12⟩ := d12
  obtain ⟨f13, fd13, d13⟩ := d13
  obtain ⟨f14, fd14, d14⟩ := d14
  obtain ⟨f15, fd15, d15⟩ := d15
  obtain ⟨f16, fd16, d16⟩ := d16
  obtain ⟨f17, fd17, d17⟩ := d17
  obtain ⟨f18, fd18, d18⟩ := d18
  obtain ⟨f19, fd19, d19⟩ := d19
  obtain ⟨f20, fd20, d20⟩ := d20
  obtain ⟨f21, fd21, d21⟩ := d21
  obtain ⟨f22, fd22, d22⟩ := d22
  obtain ⟨f23, fd23, d23⟩ := d23
  obtain ⟨f24, fd24, d24⟩ := d24
  obtain ⟨f25, fd25, d25⟩ := d25
  obtain ⟨f26, fd26, d26⟩ := d26
  obtain ⟨f27, fd27, d27⟩ := d27
  obtain ⟨f28, fd28, d28⟩ := d28
  obtain ⟨f29, fd29, d29⟩ := d29
  obtain ⟨f30, fd30, d30⟩ := d30
  obtain ⟨f31, fd31, d31⟩ := d31
  obtain ⟨f32, fd32, d32⟩ := d32
  obtain ⟨f33, fd33, d33⟩ := d33
  obtain ⟨f34, fd34, d34⟩ := d34
  obtain ⟨f35, fd35, d35⟩ := d35
  obtain ⟨f36, fd36, d36⟩ := d36
  obtain ⟨f37, fd37, d37⟩ := d37
  obtain ⟨f38, fd38, d38⟩ := d38
  obtain ⟨f39, fd39, d39⟩ := d39
  obtain ⟨f40, fd40, d40⟩ := d40
  obtain ⟨f41, fd41, d41⟩ := d41
  obtain ⟨f42, fd42, d42⟩ := d42
  obtain ⟨f43, fd43, d43⟩ := d43
  obtain ⟨f44, fd44, d44⟩ := d44
  obtain ⟨f45, fd45, d45⟩ := d45
  obtain ⟨f46, fd46, d46⟩ := d46
  obtain ⟨f47, fd47, d47⟩ := d47
  obtain ⟨f48, fd48, d48⟩ := d48
  obtain ⟨f49, fd49, d49⟩ := d49
  obtain ⟨f50, fd50, d50⟩ := d50
  obtain ⟨f51, fd51, d51⟩ := d51
  obtain ⟨f52, fd52, d52⟩ := d52
  obtain ⟨q1, q2⟩ := ancB_ok b
  have e := hfa.symm.trans d52.m
  cases e
  have gaE : ∀ c, c < nC → gaOf [C0, C1, C2, C3, C4, C5, f10, f13, f15, f18, f23, f27, f28, f29] c = gaOf [C0, C1, C2, C3, C4, C5] c := fun c hc => by
    match c, hc with
    | 0, _ => rfl
    | 1, _ => rfl
    | 2, _ => rfl
    | 3, _ => rfl
    | 4, _ => rfl
    | 5, _ => rfl
    | c + 6, hc => exact absurd hc (by unfold nC; omega)
  have anc2 : Anc K (gaOf [C0, C1, C2, C3, C4, C5, f10, f13, f15, f18, f23, f27, f28, f29]) nC anc := ⟨fun a ha b hb => by rw [gaE a ha, gaE b hb]; exact q1.own a ha b hb, fun a ha => by rw [gaE a ha]; exact q1.ve a ha, fun a ha => by rw [gaE a ha]; exact q1.cls a ha⟩
  have cls2 : ∀ c < nC, ClsF K (gaOf [C0, C1, C2, C3, C4, C5, f10, f13, f15, f18, f23, f27, f28, f29] c) := fun c hc => by rw [gaE c hc]; exact q2 c hc
  have xm2 : ∀ a < nC, ∀ b < nC, PySem.W.exmOne K (.ref (gaOf [C0, C1, C2, C3, C4, C5, f10, f13, f15, f18, f23, f27, f28, f29] a)) (.ref (gaOf [C0, C1, C2, C3, C4, C5, f10, f13, f15, f18, f23, f27, f28, f29] b)) = some ((Pm.anc a).elem b) := fun a ha b hb => by rw [gaE a ha, gaE b hb]; exact exmB_ok xm a ha b hb
  have T : ∀ G : Gx, G.K = K → G.ga = gaOf [C0, C1, C2, C3, C4, C5, f10, f13, f15, f18, f23, f27, f28, f29] → G.lam = lamTab → G.tt = ttOf (fun | 0 => p0 | 1 => p1 | 2 => p2 | _ => 0) → G.cs = csOf (fun | 0 => c0 | 1 => c1 | 2 => c2 | _ => 0) (fun | 0 => p0 | 1 => p1 | 2 => p2 | _ => 0) → G.ρ = rhoOf G.ns → Facts G P K mg (fun | 0 => f0 | 1 => f1 | 2 => f2 | 3 => f3 | 4 => f4 | 5 => f5 | 6 => f6 | 7 => f7 | 8 => f8 | 9 => f9 | 10 => f10 | 11 => f11 | 12 => f12 | 13 => f13 | 14 => f14 | 15 => f15 | 16 => f16 | 17 => f17 | 18 => f18 | 19 => f19 | 20 => f20 | 21 => f21 | 22 => f22 | 23 => f23 | 24 => f24 | 25 => f25 | 26 => f26 | 27 => f27 | 28 => f28 | 29 => f29 | 30 => f30 | 31 => f31 | 32 => f32 | 33 => f33 | 34 => f34 | 35 => f35 | 36 => f36 | 37 => f37 | 38 => f38 | 39 => f39 | 40 => f40 | 41 => f41 | 42 => f42 | 43 => f43 | 44 => f44 | 45 => f45 | 46 => f46 | 47 => f47 | 48 => f48 | 49 => f49 | 50 => f50 | 51 => f51 | 52 => fa | _ => fa) (fun | 0 => fd0 | 1 => fd1 | 2 => fd2 | 3 => fd3 | 4 => fd4 | 5 => fd5 | 6 => fd6 | 7 => fd7 | 8 => fd8 | 9 => fd9 | 10 => fd10 | 11 => fd11 | 12 => fd12 | 13 => fd13 | 14 => fd14 | 15 => fd15 | 16 => fd16 | 17 => fd17 | 18 => fd18 | 19 => fd19 | 20 => fd20 | 21 => fd21 | 22 => fd22 | 23 => fd23 | 24 => fd24 | 25 => fd25 | 26 => fd26 | 27 => fd27 | 28 => fd28 | 29 => fd29 | 30 => fd30 | 31 => fd31 | 32 => fd32 | 33 => fd33 | 34 => fd34 | 35 => fd35 | 36 => fd36 | 37 => fd37 | 38 => fd38 | 39 => fd39 | 40 => fd40 | 41 => fd41 | 42 => fd42 | 43 => fd43 | 44 => fd44 | 45 => fd45 | 46 => fd46 | 47 => fd47 | 48 => fd48 | 49 => fd49 | 50 => fd50 | 51 => fd51 | 52 => fd52 | _ => fd52) (fun | 0 => c0 | 1 => c1 | 2 => c2 | _ => 0) (fun | 0 => p0 | 1 => p1 | 2 => p2 | _ => 0) := fun G e1 e2 e3 e4 e5 e6 => {
    hK := e1.symm, anc := by rw [e2]; exact anc2, cls := by rw [e2]; exact cls2,
    xm := by rw [e2]; exact xm2,
    c_TieError := by rw [e2]; exact PySem.W.mg_of X Gn a0,
    x_TieError := by rw [e2]; exact x0,
    c_InvalidNumber := by rw [e2]; exact PySem.W.mg_of X Gn a1,
    t_InvalidNumber := by rw [e2]; exact t1,
    c_InvalidPerson := by rw [e2]; exact PySem.W.mg_of X Gn a2,
    t_InvalidPerson := by rw [e2]; exact t2,
    c_InvalidCouple := by rw [e2]; exact PySem.W.mg_of X Gn a3,
    t_InvalidCouple := by rw [e2]; exact t3,
    c_InvalidLeague := by rw [e2]; exact PySem.W.mg_of X Gn a4,
    t_InvalidLeague := by rw [e2]; exact t4,
    c_Unlike := by rw [e2]; exact PySem.W.mg_of X Gn a5,
    t_Unlike := by rw [e2]; exact t5,
    z_ValueError := PySem.W.mg_none_of X Gn z_ValueError,
    z_bool := PySem.W.mg_none_of X Gn z_bool,
    z_enumerate := PySem.W.mg_none_of X Gn z_enumerate,
    z_int := PySem.W.mg_none_of X Gn z_int,
    z_isinstance := PySem.W.mg_none_of X Gn z_isinstance,
    z_len := PySem.W.mg_none_of X Gn z_len,
    z_list := PySem.W.mg_none_of X Gn z_list,
    z_max := PySem.W.mg_none_of X Gn z_max,
    z_min := PySem.W.mg_none_of X Gn z_min,
    z_range := PySem.W.mg_none_of X Gn z_range,
    z_repr := PySem.W.mg_none_of X Gn z_repr,
    z_sorted := PySem.W.mg_none_of X Gn z_sorted,
    z_super := PySem.W.mg_none_of X Gn z_super,
    z_tuple := PySem.W.mg_none_of X Gn z_tuple,
    g_MOST_PEOPLE := let ⟨t, z⟩ := g_MOST_PEOPLE; ⟨t, PySem.W.mg_of X Gn z⟩,
    v_runs := by rw [e2]; exact d10.m, gv_runs := by rw [e2]; rfl,
    v_league_class_size := by rw [e2]; exact d13.m, gv_league_class_size := by rw [e2]; rfl,
    v_leagues_by_turns := by rw [e2]; exact d15.m, gv_leagues_by_turns := by rw [e2]; rfl,
    v_league_number := by rw [e2]; exact d18.m, gv_league_number := by rw [e2]; rfl,
    v_are_joined_leagues := by rw [e2]; exact d23.m, gv_are_joined_leagues := by rw [e2]; rfl,
    v_parting_people := by rw [e2]; exact d27.m, gv_parting_people := by rw [e2]; rfl,
    v_league_turns := by rw [e2]; exact d28.m, gv_league_turns := by rw [e2]; rfl,
    v_league_road := by rw [e2]; exact d29.m, gv_league_road := by rw [e2]; rfl,
    rho := e6, lam := e3, tt := e4, cs := e5,
    tu__law_leagues_right := by
      rw [e4]
      intro p hp hq
      have nd2 := nd
      simp only [ttOf, List.mem_cons, List.not_mem_nil, or_false] at hp
      simp only [List.nodup_cons, List.mem_cons, List.not_mem_nil, or_false, not_or, not_false_eq_true, and_true] at nd2
      rcases hp with rfl | rfl | rfl <;> first | rfl | (exfalso; have hq2 : (_ : Addr) = _ := hq; simp_all),
    tu__law_rest_right := by
      rw [e4]
      intro p hp hq
      have nd2 := nd
      simp only [ttOf, List.mem_cons, List.not_mem_nil, or_false] at hp
      simp only [List.nodup_cons, List.mem_cons, List.not_mem_nil, or_false, not_or, not_false_eq_true, and_true] at nd2
      rcases hp with rfl | rfl | rfl <;> first | rfl | (exfalso; have hq2 : (_ : Addr) = _ := hq; simp_all),
    tu_runs_of := by
      rw [e4]
      intro p hp hq
      have nd2 := nd
      simp only [ttOf, List.mem_cons, List.not_mem_nil, or_false] at hp
      simp only [List.nodup_cons, List.mem_cons, List.not_mem_nil, or_false, not_or, not_false_eq_true, and_true] at nd2
      rcases hp with rfl | rfl | rfl <;> first | rfl | (exfalso; have hq2 : (_ : Addr) = _ := hq; simp_all),
    d_is_whole := d0, d_is_between := d1, d_are_ties := d2, d_is_company_value := d3, d_is_league_value := d4, d_check_league := d5, d_won := d6, d_are_alike := d7, d_alike_in := d8, e_runs_of := d9, d_runs := d10, d_factorial_of := d11, d_size_of := d12, d_league_class_size := d13, d_product_of := d14, d_leagues_by_turns := d15, d_steps_of := d16, d_laid_rows := d17, d_league_number := d18, d_check_two := d19, d_couples_of := d20, d_unlike_results := d21, d_are_joined_of := d22, d_are_joined_leagues := d23, d_lots_of := d24, d_tie_of := d25, d_among_of := d26, d_parting_people := d27, d_league_turns := d28, d_league_road := d29, d_league_couples := d30, d__law_caught := d31, d__law_all := d32, d_is_person := d33, d_check_person := d34, d_beats := d35, d_kept_rows := d36, d_turned_of := d37, d_is_couple := d38, d_turned := d39, d_check_couple := d40, d_is_sure_result := d41, d_lots_with := d42, d_sure_people := d43, d_check_number := d44, d_league_at := d45, d_is_league_road := d46, d_is_league := d47, e__law_leagues_right := d48, d__law_itself := d49, e__law_rest_right := d50, d__law_named_right := d51, d_law := d52 }
  refine ⟨fd52, fun s u => ?_, fun a ns _ => ?_⟩
  · obtain ⟨_, _, _, _, _, _, _, _, _, ez, _, _⟩ := d52.F.ex
    rw [ez]
    exact .of_eq rfl
  · obtain ⟨G, kl, L, fn, h1, ⟨h2, h3⟩, h4, h5, h6⟩ := law_all (w := w) T a ns
    refine ⟨G, kl, L, fn, h1, ?_, h4, h5, h6⟩
    rw [h2, h3]
    obtain ⟨r0, hr0⟩ := Option.isSome_iff_exists.mp ro0
    obtain ⟨w0, v0⟩ := CO _ _ _ _ hr0 tb0
    obtain ⟨r1, hr1⟩ := Option.isSome_iff_exists.mp ro1
    obtain ⟨w1, v1⟩ := CO _ _ _ _ hr1 tb1
    obtain ⟨r2, hr2⟩ := Option.isSome_iff_exists.mp ro2
    obtain ⟨w2, v2⟩ := CO _ _ _ _ hr2 tb2
    refine ⟨fun p hp => ?_, fun p hp => ?_, fun p hp => ?_, fun q hq => ?_, hbm⟩
    · simp only [csOf, List.mem_cons, List.not_mem_nil, or_false] at hp
      rcases hp with rfl | rfl | rfl
      · exact v0
      · exact v1
      · exact v2
    · simp only [csOf, List.mem_cons, List.not_mem_nil, or_false] at hp
      rcases hp with rfl | rfl | rfl
      · exact no0
      · exact no1
      · exact no2
    · simp only [csOf, List.mem_cons, List.not_mem_nil, or_false] at hp
      rcases hp with rfl | rfl | rfl
      · exact w0
      · exact w1
      · exact w2
    · simp only [ttOf, List.mem_cons, List.not_mem_nil, or_false] at hq
      rcases hq with rfl | rfl | rfl <;> simp [csOf]
end Pm
open PySem PySem.W PyProof.Rows
set_option maxHeartbeats 0 in
theorem PySem.Challenge.cw_twinties_k61_leagues_refused_holds : PySem.Challenge.rw_twinties_k61_leagues_refused.Holds := by
  w_on; o_law; k_head; (case hw => w_witness2)
  k_fill
  refine Pm.law_walkC (l := PySem.Challenge.rw_twinties_k61_leagues_refused) (n := 63) (k := 14) (x := "_law_script") rfl (by decide) rfl ⟨rfl, by decide, by decide⟩ (fun w h Y => by first | exact PySem.W.kIn_of Y | exact PySem.W.km_in_of Y) ?F
  case F =>
    intro w mg fa h KX G hmg CO hbm
    refine' Pm.law_fin KX G hmg CO hbm ?a0 ?a1 ?a2 ?a3 ?a4 ?a5 ?b ?xm ?x0 ?t1 ?t2 ?t3 ?t4 ?t5 ?z_ValueError ?z_bool ?z_enumerate ?z_int ?z_isinstance ?z_len ?z_list ?z_max ?z_min ?z_range ?z_repr ?z_sorted ?z_super ?z_tuple ?g_MOST_PEOPLE ?tb0 ?ro0 ?no0 ?tb1 ?ro1 ?no1 ?tb2 ?ro2 ?no2 ?nd ?d0 ?d1 ?d2 ?d3 ?d4 ?d5 ?d6 ?d7 ?d8 ?d9 ?d10 ?d11 ?d12 ?d13 ?d14 ?d15 ?d16 ?d17 ?d18 ?d19 ?d20 ?d21 ?d22 ?d23 ?d24 ?d25 ?d26 ?d27 ?d28 ?d29 ?d30 ?d31 ?d32 ?d33 ?d34 ?d35 ?d36 ?d37 ?d38 ?d39 ?d40 ?d41 ?d42 ?d43 ?d44 ?d45 ?d46 ?d47 ?d48 ?d49 ?d50 ?d51 ?d52
    (case a0 => k_is)
    (case a1 => k_is)
    (case a2 => k_is)
    (case a3 => k_is)
    (case a4 => k_is)
    (case a5 => k_is)
    (case tb0 => refine' Pm.tab_by ?a ?l ?e ?l2 ?v; (case a => k_is); (case l => k_is); (case e => rfl); (case l2 => k_is); (case v => rfl))
    (case ro0 => kernel_rfl)
    (case no0 => kernel_rfl)
    (case tb1 => refine' Pm.tab_by ?a ?l ?e ?l2 ?v; (case a => k_is); (case l => k_is); (case e => rfl); (case l2 => k_is); (case v => rfl))
    (case ro1 => kernel_rfl)
    (case no1 => kernel_rfl)
    (case tb2 => refine' Pm.tab_by ?a ?l ?e ?l2 ?v; (case a => k_is); (case l => k_is); (case e => rfl); (case l2 => k_is); (case v => rfl))
    (case ro2 => kernel_rfl)
    (case no2 => kernel_rfl)
    (case nd => decide)
    (case b => kernel_rfl)
    (case xm => kernel_rfl)
    (case x0 => kernel_rfl)
    (case t1 => refine' Pm.tie_mk [⟨7, 8, 7, 13⟩, ⟨7, 8, 7, 15⟩, ⟨7, 8, 7, 24⟩, ⟨7, 25, 7, 30⟩, ⟨7, 8, 7, 31⟩, ⟨7, 8, 7, 31⟩, ⟨8, 8, 8, 12⟩, ⟨8, 8, 8, 18⟩, ⟨8, 21, 8, 26⟩, ⟨8, 8, 8, 26⟩] ?B ?hC ?iC ?tI ?lf ?cd ?lc ?lx ?lT ?hv ?hf ?hbm ?hal ?op ?sup ?tops ?ev; (case B => exact Pm.clsB_ok (by kernel_rfl)); (case hC => k_is); (case iC => k_is); (case tI => k_is); (case lf => k_is); (case cd => k_is); (case lc => k_is); (case lx => k_is); (case lT => k_is); (case hv => rfl); (case hf => kernel_rfl); (case hbm => kernel_rfl); (case hal => kernel_rfl); (case op => k_is); (case sup => k_is); (case tops => kernel_rfl); (case ev => exact fun env => ⟨_, rfl⟩))
    (case t2 => refine' Pm.tie_mk [⟨12, 8, 12, 13⟩, ⟨12, 8, 12, 15⟩, ⟨12, 8, 12, 24⟩, ⟨12, 25, 12, 30⟩, ⟨12, 8, 12, 31⟩, ⟨12, 8, 12, 31⟩, ⟨13, 8, 13, 12⟩, ⟨13, 8, 13, 18⟩, ⟨13, 21, 13, 26⟩, ⟨13, 8, 13, 26⟩] ?B ?hC ?iC ?tI ?lf ?cd ?lc ?lx ?lT ?hv ?hf ?hbm ?hal ?op ?sup ?tops ?ev; (case B => exact Pm.clsB_ok (by kernel_rfl)); (case hC => k_is); (case iC => k_is); (case tI => k_is); (case lf => k_is); (case cd => k_is); (case lc => k_is); (case lx => k_is); (case lT => k_is); (case hv => rfl); (case hf => kernel_rfl); (case hbm => kernel_rfl); (case hal => kernel_rfl); (case op => k_is); (case sup => k_is); (case tops => kernel_rfl); (case ev => exact fun env => ⟨_, rfl⟩))
    (case t3 => refine' Pm.tie_mk [⟨17, 8, 17, 13⟩, ⟨17, 8, 17, 15⟩, ⟨17, 8, 17, 24⟩, ⟨17, 25, 17, 30⟩, ⟨17, 8, 17, 31⟩, ⟨17, 8, 17, 31⟩, ⟨18, 8, 18, 12⟩, ⟨18, 8, 18, 18⟩, ⟨18, 21, 18, 26⟩, ⟨18, 8, 18, 26⟩] ?B ?hC ?iC ?tI ?lf ?cd ?lc ?lx ?lT ?hv ?hf ?hbm ?hal ?op ?sup ?tops ?ev; (case B => exact Pm.clsB_ok (by kernel_rfl)); (case hC => k_is); (case iC => k_is); (case tI => k_is); (case lf => k_is); (case cd => k_is); (case lc => k_is); (case lx => k_is); (case lT => k_is); (case hv => rfl); (case hf => kernel_rfl); (case hbm => kernel_rfl); (case hal => kernel_rfl); (case op => k_is); (case sup => k_is); (case tops => kernel_rfl); (case ev => exact fun env => ⟨_, rfl⟩))
    (case t4 => refine' Pm.tie_mk [⟨22, 8, 22, 13⟩, ⟨22, 8, 22, 15⟩, ⟨22, 8, 22, 24⟩, ⟨22, 25, 22, 30⟩, ⟨22, 8, 22, 31⟩, ⟨22, 8, 22, 31⟩, ⟨23, 8, 23, 12⟩, ⟨23, 8, 23, 18⟩, ⟨23, 21, 23, 26⟩, ⟨23, 8, 23, 26⟩] ?B ?hC ?iC ?tI ?lf ?cd ?lc ?lx ?lT ?hv ?hf ?hbm ?hal ?op ?sup ?tops ?ev; (case B => exact Pm.clsB_ok (by kernel_rfl)); (case hC => k_is); (case iC => k_is); (case tI => k_is); (case lf => k_is); (case cd => k_is); (case lc => k_is); (case lx => k_is); (case lT => k_is); (case hv => rfl); (case hf => kernel_rfl); (case hbm => kernel_rfl); (case hal => kernel_rfl); (case op => k_is); (case sup => k_is); (case tops => kernel_rfl); (case ev => exact fun env => ⟨_, rfl⟩))
    (case t5 => refine' Pm.tie_mk [⟨27, 8, 27, 13⟩, ⟨27, 8, 27, 15⟩, ⟨27, 8, 27, 24⟩, ⟨27, 25, 27, 30⟩, ⟨27, 8, 27, 31⟩, ⟨27, 8, 27, 31⟩, ⟨28, 8, 28, 12⟩, ⟨28, 8, 28, 18⟩, ⟨28, 21, 28, 26⟩, ⟨28, 8, 28, 26⟩] ?B ?hC ?iC ?tI ?lf ?cd ?lc ?lx ?lT ?hv ?hf ?hbm ?hal ?op ?sup ?tops ?ev; (case B => exact Pm.clsB_ok (by kernel_rfl)); (case hC => k_is); (case iC => k_is); (case tI => k_is); (case lf => k_is); (case cd => k_is); (case lc => k_is); (case lx => k_is); (case lT => k_is); (case hv => rfl); (case hf => kernel_rfl); (case hbm => kernel_rfl); (case hal => kernel_rfl); (case op => k_is); (case sup => k_is); (case tops => kernel_rfl); (case ev => exact fun env => ⟨_, rfl⟩))
    (case z_ValueError => k_is)
    (case z_bool => k_is)
    (case z_enumerate => k_is)
    (case z_int => k_is)
    (case z_isinstance => k_is)
    (case z_len => k_is)
    (case z_list => k_is)
    (case z_max => k_is)
    (case z_min => k_is)
    (case z_range => k_is)
    (case z_repr => k_is)
    (case z_sorted => k_is)
    (case z_super => k_is)
    (case z_tuple => k_is)
    (case g_MOST_PEOPLE => exact ⟨_, by k_is⟩)
    (case d0 => refine' Pm.df_mk Pm.st_is_whole KX G ?a ?l ?c ?k; (case a => k_is); (case l => k_is); (case c => k_is); (case k => k_is))
    (case d1 => refine' Pm.df_mk Pm.st_is_between KX G ?a ?l ?c ?k; (case a => k_is); (case l => k_is); (case c => k_is); (case k => k_is))
    (case d2 => refine' Pm.df_mk Pm.st_are_ties KX G ?a ?l ?c ?k; (case a => k_is); (case l => k_is); (case c => k_is); (case k => k_is))
    (case d3 => refine' Pm.df_mk Pm.st_is_company_value KX G ?a ?l ?c ?k; (case a => k_is); (case l => k_is); (case c => k_is); (case k => k_is))
    (case d4 => refine' Pm.df_mk Pm.st_is_league_value KX G ?a ?l ?c ?k; (case a => k_is); (case l => k_is); (case c => k_is); (case k => k_is))
    (case d5 => refine' Pm.df_mk Pm.st_check_league KX G ?a ?l ?c ?k; (case a => k_is); (case l => k_is); (case c => k_is); (case k => k_is))
    (case d6 => refine' Pm.df_mk Pm.st_won KX G ?a ?l ?c ?k; (case a => k_is); (case l => k_is); (case c => k_is); (case k => k_is))
    (case d7 => refine' Pm.df_mk Pm.st_are_alike KX G ?a ?l ?c ?k; (case a => k_is); (case l => k_is); (case c => k_is); (case k => k_is))
    (case d8 => refine' Pm.df_mk Pm.st_alike_in KX G ?a ?l ?c ?k; (case a => k_is); (case l => k_is); (case c => k_is); (case k => k_is))
    (case d9 => refine' Pm.dfC_mk Pm.st_runs_of KX G ?a ?l ?c ?k; (case a => k_is); (case l => k_is); (case c => k_is); (case k => k_is))
    (case d10 => refine' Pm.df_mk Pm.st_runs KX G ?a ?l ?c ?k; (case a => k_is); (case l => k_is); (case c => k_is); (case k => k_is))
    (case d11 => refine' Pm.df_mk Pm.st_factorial_of KX G ?a ?l ?c ?k; (case a => k_is); (case l => k_is); (case c => k_is); (case k => k_is))
    (case d12 => refine' Pm.df_mk Pm.st_size_of KX G ?a ?l ?c ?k; (case a => k_is); (case l => k_is); (case c => k_is); (case k => k_is))
    (case d13 => refine' Pm.df_mk Pm.st_league_class_size KX G ?a ?l ?c ?k; (case a => k_is); (case l => k_is); (case c => k_is); (case k => k_is))
    (case d14 => refine' Pm.df_mk Pm.st_product_of KX G ?a ?l ?c ?k; (case a => k_is); (case l => k_is); (case c => k_is); (case k => k_is))
    (case d15 => refine' Pm.df_mk Pm.st_leagues_by_turns KX G ?a ?l ?c ?k; (case a => k_is); (case l => k_is); (case c => k_is); (case k => k_is))
    (case d16 => refine' Pm.df_mk Pm.st_steps_of KX G ?a ?l ?c ?k; (case a => k_is); (case l => k_is); (case c => k_is); (case k => k_is))
    (case d17 => refine' Pm.df_mk Pm.st_laid_rows KX G ?a ?l ?c ?k; (case a => k_is); (case l => k_is); (case c => k_is); (case k => k_is))
    (case d18 => refine' Pm.df_mk Pm.st_league_number KX G ?a ?l ?c ?k; (case a => k_is); (case l => k_is); (case c => k_is); (case k => k_is))
    (case d19 => refine' Pm.df_mk Pm.st_check_two KX G ?a ?l ?c ?k; (case a => k_is); (case l => k_is); (case c => k_is); (case k => k_is))
    (case d20 => refine' Pm.df_mk Pm.st_couples_of KX G ?a ?l ?c ?k; (case a => k_is); (case l => k_is); (case c => k_is); (case k => k_is))
    (case d21 => refine' Pm.df_mk Pm.st_unlike_results KX G ?a ?l ?c ?k; (case a => k_is); (case l => k_is); (case c => k_is); (case k => k_is))
    (case d22 => refine' Pm.df_mk Pm.st_are_joined_of KX G ?a ?l ?c ?k; (case a => k_is); (case l => k_is); (case c => k_is); (case k => k_is))
    (case d23 => refine' Pm.df_mk Pm.st_are_joined_leagues KX G ?a ?l ?c ?k; (case a => k_is); (case l => k_is); (case c => k_is); (case k => k_is))
    (case d24 => refine' Pm.df_mk Pm.st_lots_of KX G ?a ?l ?c ?k; (case a => k_is); (case l => k_is); (case c => k_is); (case k => k_is))
    (case d25 => refine' Pm.df_mk Pm.st_tie_of KX G ?a ?l ?c ?k; (case a => k_is); (case l => k_is); (case c => k_is); (case k => k_is))
    (case d26 => refine' Pm.df_mk Pm.st_among_of KX G ?a ?l ?c ?k; (case a => k_is); (case l => k_is); (case c => k_is); (case k => k_is))
    (case d27 => refine' Pm.df_mk Pm.st_parting_people KX G ?a ?l ?c ?k; (case a => k_is); (case l => k_is); (case c => k_is); (case k => k_is))
    (case d28 => refine' Pm.df_mk Pm.st_league_turns KX G ?a ?l ?c ?k; (case a => k_is); (case l => k_is); (case c => k_is); (case k => k_is))
    (case d29 => refine' Pm.df_mk Pm.st_league_road KX G ?a ?l ?c ?k; (case a => k_is); (case l => k_is); (case c => k_is); (case k => k_is))
    (case d30 => refine' Pm.df_mk Pm.st_league_couples KX G ?a ?l ?c ?k; (case a => k_is); (case l => k_is); (case c => k_is); (case k => k_is))
    (case d31 => refine' Pm.df_mk Pm.st__law_caught KX G ?a ?l ?c ?k; (case a => k_is); (case l => k_is); (case c => k_is); (case k => k_is))
    (case d32 => refine' Pm.df_mk Pm.st__law_all KX G ?a ?l ?c ?k; (case a => k_is); (case l => k_is); (case c => k_is); (case k => k_is))
    (case d33 => refine' Pm.df_mk Pm.st_is_person KX G ?a ?l ?c ?k; (case a => k_is); (case l => k_is); (case c => k_is); (case k => k_is))
    (case d34 => refine' Pm.df_mk Pm.st_check_person KX G ?a ?l ?c ?k; (case a => k_is); (case l => k_is); (case c => k_is); (case k => k_is))
    (case d35 => refine' Pm.df_mk Pm.st_beats KX G ?a ?l ?c ?k; (case a => k_is); (case l => k_is); (case c => k_is); (case k => k_is))
    (case d36 => refine' Pm.df_mk Pm.st_kept_rows KX G ?a ?l ?c ?k; (case a => k_is); (case l => k_is); (case c => k_is); (case k => k_is))
    (case d37 => refine' Pm.df_mk Pm.st_turned_of KX G ?a ?l ?c ?k; (case a => k_is); (case l => k_is); (case c => k_is); (case k => k_is))
    (case d38 => refine' Pm.df_mk Pm.st_is_couple KX G ?a ?l ?c ?k; (case a => k_is); (case l => k_is); (case c => k_is); (case k => k_is))
    (case d39 => refine' Pm.df_mk Pm.st_turned KX G ?a ?l ?c ?k; (case a => k_is); (case l => k_is); (case c => k_is); (case k => k_is))
    (case d40 => refine' Pm.df_mk Pm.st_check_couple KX G ?a ?l ?c ?k; (case a => k_is); (case l => k_is); (case c => k_is); (case k => k_is))
    (case d41 => refine' Pm.df_mk Pm.st_is_sure_result KX G ?a ?l ?c ?k; (case a => k_is); (case l => k_is); (case c => k_is); (case k => k_is))
    (case d42 => refine' Pm.df_mk Pm.st_lots_with KX G ?a ?l ?c ?k; (case a => k_is); (case l => k_is); (case c => k_is); (case k => k_is))
    (case d43 => refine' Pm.df_mk Pm.st_sure_people KX G ?a ?l ?c ?k; (case a => k_is); (case l => k_is); (case c => k_is); (case k => k_is))
    (case d44 => refine' Pm.df_mk Pm.st_check_number KX G ?a ?l ?c ?k; (case a => k_is); (case l => k_is); (case c => k_is); (case k => k_is))
    (case d45 => refine' Pm.df_mk Pm.st_league_at KX G ?a ?l ?c ?k; (case a => k_is); (case l => k_is); (case c => k_is); (case k => k_is))
    (case d46 => refine' Pm.df_mk Pm.st_is_league_road KX G ?a ?l ?c ?k; (case a => k_is); (case l => k_is); (case c => k_is); (case k => k_is))
    (case d47 => refine' Pm.df_mk Pm.st_is_league KX G ?a ?l ?c ?k; (case a => k_is); (case l => k_is); (case c => k_is); (case k => k_is))
    (case d48 => refine' Pm.dfC_mk Pm.st__law_leagues_right KX G ?a ?l ?c ?k; (case a => k_is); (case l => k_is); (case c => k_is); (case k => k_is))
    (case d49 => refine' Pm.df_mk Pm.st__law_itself KX G ?a ?l ?c ?k; (case a => k_is); (case l => k_is); (case c => k_is); (case k => k_is))
    (case d50 => refine' Pm.dfC_mk Pm.st__law_rest_right KX G ?a ?l ?c ?k; (case a => k_is); (case l => k_is); (case c => k_is); (case k => k_is))
    (case d51 => refine' Pm.df_mk Pm.st__law_named_right KX G ?a ?l ?c ?k; (case a => k_is); (case l => k_is); (case c => k_is); (case k => k_is))
    (case d52 => refine' Pm.df_mk Pm.st_law KX G ?a ?l ?c ?k; (case a => k_is); (case l => k_is); (case c => k_is); (case k => k_is))
