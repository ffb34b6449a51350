import PyProof.Rows.All
import Wide.All
import OpenK.AllK
import Wide.FinOn
import HandS.ForMost
import HandS.Exc
import HandS.Lambda
import HandS.ForExc
import HandS.CallSlots
import HandS.Wide
import HandS.WideBits
import HandS.Style
import HandS.IsInst
import HandS.Deep
import HandS.More
import HandS.Conv
import HandS.SortInts
import KE.KSort
import PyProof.ReprRoads
import PyProof.ReprLen
import PyProof.CallFns
import HandS.DeepEq
import HandS.DictComp
import HandS.ExcSuper
import HandS.ExcInit
import KE.KSuper
import HandS.ExcIs
import HandS.ExcField
import HandS.ExcValue
import HandS.Ends
import PySem.Challenge.RW_twinties_k04_errors_by_their_classes
set_option Elab.async false
set_option linter.all false
set_option maxRecDepth 100000
set_option maxHeartbeats 4000000
/-! PmDefs: values, cells, the small heap, results, the meanings of Python's constructs as Lean functions. -/
namespace Pm
open PySem

/-! ### whole numbers, fast -/
def ieq : Int → Int → Bool
  | .ofNat m, .ofNat n => Nat.beq m n
  | .negSucc m, .negSucc n => Nat.beq m n
  | _, _ => false
def ilt : Int → Int → Bool
  | .ofNat m, .ofNat n => Nat.blt m n
  | .negSucc m, .negSucc n => Nat.blt n m
  | .negSucc _, .ofNat _ => true
  | .ofNat _, .negSucc _ => false
theorem ieq_iff (i j : Int) : ieq i j = decide (i = j) := by
  apply Bool.eq_iff_iff.mpr
  rw [decide_eq_true_iff]
  cases i <;> cases j <;> simp only [ieq, Nat.beq_eq, Bool.false_eq_true, Int.ofNat_eq_natCast, Int.negSucc_eq] <;> constructor <;> intro h <;> first | omega | trivial | exact h.elim
theorem ilt_iff (i j : Int) : ilt i j = decide (i < j) := by
  apply Bool.eq_iff_iff.mpr
  rw [decide_eq_true_iff]
  cases i <;> cases j <;> simp only [ilt, Nat.blt_eq, Bool.false_eq_true, Int.ofNat_eq_natCast, Int.negSucc_eq] <;> constructor <;> intro h <;> first | omega | trivial | exact h.elim
def ile (i j : Int) : Bool := !ilt j i
theorem ile_iff (i j : Int) : ile i j = decide (i ≤ j) := by
  unfold ile
  rw [ilt_iff, Bool.eq_iff_iff]
  simp

/-! ### data as it is read: with letters in it -/
/-- sym k a c: a times the k-th letter, and c; rep d: the text that repr gives of d; cat: two texts, one behind the other -/
inductive SD where
  | non | bl (b : Bool) | int (i : Int) | sym (k : Nat) (a c : Int) | str (x : List Nat) | rep (d : SD) | cat (d e : SD)
  | lst (xs : List SD) | tup (xs : List SD) | dct (ks vs : List SD)

abbrev Loc := Nat
/-- built-in types -/
inductive Ty where
  | non | bool | int | str | list | tuple | dict | set | float | verr | xcp | obj
def Ty.nm : Ty → String
  | .non => "NoneType" | .bool => "bool" | .int => "int" | .str => "str" | .list => "list" | .tuple => "tuple" | .dict => "dict" | .set => "set" | .float => "float" | .verr => "ValueError" | .xcp => "Exception" | .obj => "object"
/-- isinstance of a thing of the type a (none of the exceptions') -/
def Ty.isT : Ty → Ty → Bool
  | _, .obj => true
  | .non, .non => true
  | .bool, .bool => true
  | .bool, .int => true
  | .int, .int => true
  | .str, .str => true
  | .list, .list => true
  | .tuple, .tuple => true
  | .dict, .dict => true
  | .set, .set => true
  | .float, .float => true
  | .verr, .verr => true
  | .verr, .xcp => true
  | .xcp, .xcp => true
  | _, _ => false
/-- values: glo g is the g-th thing of the module (a def, a class); scr is the script; raw k an int of which nothing is known -/
inductive W where
  | non | bl (b : Bool) | int (i : Int) | sym (k : Nat) (a c : Int) | txt (d : SD) | ref (l : Loc) | ty (n : Ty) | glo (g : Nat) | scr | raw (k : Nat)

inductive Cell where
  | lst (xs : List W)
  | tup (xs : List W)
  | dct (kvs : List (Sum Int (List Nat) × W))
  | set (xs : List Int)
  | xd (v : W)
  | exc (c : Nat) (d : Loc)
  | exn (c : Nat)
  | lam (i : Nat) (act : Option Nat)

/-! ### the heap -/
inductive Tr where
  | lf
  | nd (l : Tr) (c : Option Cell) (r : Tr)
def Tr.get : Tr → Nat → Option Cell
  | .lf, _ => none
  | .nd l c r, i => match i with
    | 0 => c
    | k + 1 => match Nat.beq (k % 2) 0 with
      | true => l.get (k / 2)
      | false => r.get (k / 2)
/-- the first number only bounds the turns: i + 1 of them reach the place i -/
def Tr.put : Nat → Tr → Nat → Cell → Tr
  | 0, t, _, _ => t
  | f + 1, .lf, i, x => match i with
    | 0 => .nd .lf (some x) .lf
    | k + 1 => match Nat.beq (k % 2) 0 with
      | true => .nd (Tr.put f .lf (k / 2) x) none .lf
      | false => .nd .lf none (Tr.put f .lf (k / 2) x)
  | f + 1, .nd l c r, i, x => match i with
    | 0 => .nd l (some x) r
    | k + 1 => match Nat.beq (k % 2) 0 with
      | true => .nd (Tr.put f l (k / 2) x) c r
      | false => .nd l c (Tr.put f r (k / 2) x)
/-- n: the next free place; k: the next activation's number; s: the script's numbers -/
structure AH where
  n : Nat
  k : Nat
  s : List Int
  t : Tr
def AH.get (h : AH) (l : Loc) : Option Cell := h.t.get l
def AH.put (h : AH) (l : Loc) (c : Cell) : AH := ⟨h.n, h.k, h.s, Tr.put (l + 1) h.t l c⟩
def AH.new (h : AH) (c : Cell) : AH := ⟨h.n + 1, h.k, h.s, Tr.put (h.n + 1) h.t h.n c⟩
def AH.nil (s : List Int) : AH := ⟨0, 0, s, .lf⟩

theorem Tr.get_lf (i : Nat) : Tr.get .lf i = none := by unfold Tr.get; rfl
theorem Tr.get_put : ∀ (f : Nat) (t : Tr) (i j : Nat) (x : Cell), i + 1 < 2 ^ f → Tr.get (Tr.put f t i x) j = if j = i then some x else Tr.get t j
  | 0, t, i, j, x, h => absurd h (by omega)
  | f + 1, .lf, 0, j, x, h => by
    unfold Tr.put Tr.get
    cases j with
    | zero => rfl
    | succ k =>
      simp only [Tr.get_lf]
      rw [if_neg (by omega)]
      split <;> rfl
  | f + 1, .lf, k + 1, j, x, h => by
    have hk : k / 2 + 1 < 2 ^ f := by omega
    unfold Tr.put
    dsimp only
    split
    · rename_i e
      have e1 : k % 2 = 0 := Nat.eq_of_beq_eq_true e
      unfold Tr.get
      cases j with
      | zero => rw [if_neg (by omega)]
      | succ q =>
        dsimp only
        split
        · rename_i e2
          have e3 : q % 2 = 0 := Nat.eq_of_beq_eq_true e2
          rw [Tr.get_put f .lf (k / 2) (q / 2) x hk, Tr.get_lf]
          by_cases z : q / 2 = k / 2
          · rw [if_pos z, if_pos (by omega)]
          · rw [if_neg z, if_neg (by omega)]
        · rename_i e2
          have e3 : ¬ q % 2 = 0 := fun z => by rw [z] at e2; cases e2
          rw [Tr.get_lf, if_neg (by omega)]
    · rename_i e
      have e1 : ¬ k % 2 = 0 := fun z => by rw [z] at e; cases e
      unfold Tr.get
      cases j with
      | zero => rw [if_neg (by omega)]
      | succ q =>
        dsimp only
        split
        · rename_i e2
          have e3 : q % 2 = 0 := Nat.eq_of_beq_eq_true e2
          rw [Tr.get_lf, if_neg (by omega)]
        · rename_i e2
          have e3 : ¬ q % 2 = 0 := fun z => by rw [z] at e2; cases e2
          rw [Tr.get_put f .lf (k / 2) (q / 2) x hk, Tr.get_lf]
          by_cases z : q / 2 = k / 2
          · rw [if_pos z, if_pos (by omega)]
          · rw [if_neg z, if_neg (by omega)]
  | f + 1, .nd l c r, 0, j, x, h => by
    unfold Tr.put Tr.get
    cases j with
    | zero => rfl
    | succ k =>
      rw [if_neg (by omega)]
  | f + 1, .nd l c r, k + 1, j, x, h => by
    have hk : k / 2 + 1 < 2 ^ f := by omega
    unfold Tr.put
    dsimp only
    split
    · rename_i e
      have e1 : k % 2 = 0 := Nat.eq_of_beq_eq_true e
      unfold Tr.get
      cases j with
      | zero => rw [if_neg (by omega)]
      | succ q =>
        dsimp only
        split
        · rename_i e2
          have e3 : q % 2 = 0 := Nat.eq_of_beq_eq_true e2
          rw [Tr.get_put f l (k / 2) (q / 2) x hk]
          by_cases z : q / 2 = k / 2
          · rw [if_pos z, if_pos (by omega)]
          · rw [if_neg z, if_neg (by omega)]
        · rename_i e2
          have e3 : ¬ q % 2 = 0 := fun z => by rw [z] at e2; cases e2
          rw [if_neg (by omega)]
    · rename_i e
      have e1 : ¬ k % 2 = 0 := fun z => by rw [z] at e; cases e
      unfold Tr.get
      cases j with
      | zero => rw [if_neg (by omega)]
      | succ q =>
        dsimp only
        split
        · rename_i e2
          have e3 : q % 2 = 0 := Nat.eq_of_beq_eq_true e2
          rw [if_neg (by omega)]
        · rename_i e2
          have e3 : ¬ q % 2 = 0 := fun z => by rw [z] at e2; cases e2
          rw [Tr.get_put f r (k / 2) (q / 2) x hk]
          by_cases z : q / 2 = k / 2
          · rw [if_pos z, if_pos (by omega)]
          · rw [if_neg z, if_neg (by omega)]
theorem AH.get_put (h : AH) (l j : Loc) (c : Cell) : (h.put l c).get j = if j = l then some c else h.get j := Tr.get_put _ _ _ _ _ Nat.lt_two_pow_self
theorem AH.get_new (h : AH) (j : Loc) (c : Cell) : (h.new c).get j = if j = h.n then some c else h.get j := Tr.get_put _ _ _ _ _ Nat.lt_two_pow_self

/-! ### results -/
/-- exc c d h: an exception of the class c flies, its own dict at d -/
inductive Res (α : Type) where
  | ok (a : α) (h : AH) | exc (c : Nat) (d : Loc) (h : AH) | no
def Res.bind {α β : Type} (r : Res α) (k : α → AH → Res β) : Res β := match r with
  | .ok a h => k a h
  | .exc c d h => .exc c d h
  | .no => .no
def ofO {α : Type} (r : Option (α × AH)) : Res α := match r with
  | some (a, h) => .ok a h
  | none => .no
abbrev Sl := List (Option W)
abbrev Fn := List W → AH → Res W
/-- what the closures mean: by the lambda's number and the activation that made it -/
abbrev Lm := Nat → Option Nat → Option Fn
abbrev EM := Sl → AH → Res W
abbrev CM := Sl → AH → Res Bool
abbrev AM := Sl → AH → Res (List W)
inductive SR where
  | nx (σ : Sl) (h : AH) | rt (v : W) (h : AH) | bk (σ : Sl) (h : AH) | ct (σ : Sl) (h : AH) | exc (c : Nat) (d : Loc) (σ : Sl) (h : AH) | no
abbrev SM := Sl → AH → SR
abbrev Op1 := W → AH → Option (W × AH)
abbrev Op2 := W → W → AH → Option (W × AH)
abbrev OpN := List W → AH → Option (W × AH)

/-! ### slots -/
def sget : Sl → Nat → Option W
  | [], _ => none
  | x :: _, 0 => x
  | _ :: r, k + 1 => sget r k
def sput : Sl → Nat → Option W → Sl
  | [], _, _ => []
  | _ :: r, 0, x => x :: r
  | y :: r, k + 1, x => y :: sput r k x
def swipe (σ : Sl) : List Nat → Sl
  | [] => σ
  | v :: vs => sput (swipe σ vs) v none

/-! ### expressions -/
def eVar (i : Nat) : EM := fun σ h => match sget σ i with
  | some w => .ok w h
  | none => .no
def eC (w : W) : EM := fun _ h => .ok w h
def eNo : EM := fun _ _ => .no
def eOp1 (f : Op1) (a : EM) : EM := fun σ h => (a σ h).bind fun x h1 => ofO (f x h1)
def eOp2 (f : Op2) (a b : EM) : EM := fun σ h => (a σ h).bind fun x h1 => (b σ h1).bind fun y h2 => ofO (f x y h2)
def evs : List EM → AM
  | [] => fun _ h => .ok [] h
  | e :: es => fun σ h => (e σ h).bind fun x h1 => (evs es σ h1).bind fun xs h2 => .ok (x :: xs) h2
def eOpN (f : OpN) (es : List EM) : EM := fun σ h => (evs es σ h).bind fun xs h1 => ofO (f xs h1)
def eCall (f : Fn) (es : List EM) : EM := fun σ h => (evs es σ h).bind f
/-- a call with keywords: the positional values and the keywords' ones, put in the parameters' order by g -/
def eCallK (f : Fn) (g : List W → List W → List W) (es ks : List EM) : EM := fun σ h => (evs es σ h).bind fun xs h1 => (evs ks σ h1).bind fun zs h2 => f (g xs zs) h2
def eIf (c : CM) (a b : EM) : EM := fun σ h => (c σ h).bind fun t h1 => match t with
  | true => a σ h1
  | false => b σ h1
def eAnd (a b : EM) : EM := fun σ h => (a σ h).bind fun t h1 => match t with
  | .bl true => b σ h1
  | .bl false => .ok (.bl false) h1
  | _ => .no
def eOr (a b : EM) : EM := fun σ h => (a σ h).bind fun t h1 => match t with
  | .bl false => b σ h1
  | .bl true => .ok (.bl true) h1
  | _ => .no
def eNot (a : EM) : EM := fun σ h => (a σ h).bind fun t h1 => match t with
  | .bl b => .ok (.bl (!b)) h1
  | _ => .no
/-- a < b < c: the middle once -/
def eChain (f g : Op2) (a b c : EM) : EM := fun σ h => (a σ h).bind fun x h1 => (b σ h1).bind fun y h2 => (ofO (f x y h2)).bind fun t h3 => match t with
  | .bl true => (c σ h3).bind fun z h4 => ofO (g y z h4)
  | .bl false => .ok (.bl false) h3
  | _ => .no
/-! ### tests -/
def cVal (e : EM) : CM := fun σ h => (e σ h).bind fun x h1 => match x with
  | .bl b => .ok b h1
  | _ => .no
def cNot (c : CM) : CM := fun σ h => (c σ h).bind fun b h1 => .ok (!b) h1
def cAnd (a b : CM) : CM := fun σ h => (a σ h).bind fun t h1 => match t with
  | true => b σ h1
  | false => .ok false h1
def cOr (a b : CM) : CM := fun σ h => (a σ h).bind fun t h1 => match t with
  | true => .ok true h1
  | false => b σ h1
def cYes : CM := fun _ h => .ok true h
/-! ### new objects -/
def mkTup (xs : List W) (h : AH) : Option (W × AH) := match Nat.ble xs.length 1000000 with
  | true => some (.ref h.n, h.new (.tup xs))
  | false => none
def mkLst (xs : List W) (h : AH) : Option (W × AH) := match Nat.ble xs.length 1000000 with
  | true => some (.ref h.n, h.new (.lst xs))
  | false => none
/-! ### what a loop walks -/
inductive MIt where
  | lst (l : Loc) | tup (l : Loc) | rng (lo : Int) (n : Nat) | enu (l : Loc) | zip (a b : Loc) | rev (l : Loc)
inductive Nx where
  | stop | yld (x : W) (h : AH) | no
def litems (h : AH) (l : Loc) : Option (List W) := match h.get l with
  | some (.lst xs) => some xs
  | _ => none
def titems (h : AH) (l : Loc) : Option (List W) := match h.get l with
  | some (.tup xs) => some xs
  | _ => none
def nth : List W → Nat → Option W
  | [], _ => none
  | x :: _, 0 => some x
  | _ :: r, k + 1 => nth r k
def MIt.next (J : MIt) (i : Nat) (h : AH) : Nx := match J with
  | .lst l => (match litems h l with
    | some xs => (match nth xs i with
      | some x => .yld x h
      | none => .stop)
    | none => .no)
  | .tup l => (match titems h l with
    | some xs => (match nth xs i with
      | some x => .yld x h
      | none => .stop)
    | none => .no)
  | .rng lo n => (match Nat.blt i n with
    | true => .yld (.int (lo + i)) h
    | false => .stop)
  | .enu l => (match litems h l with
    | some xs => (match nth xs i with
      | some x => .yld (.ref h.n) (h.new (.tup [.int i, x]))
      | none => .stop)
    | none => .no)
  | .zip a b => (match litems h a, litems h b with
    | some xs, some ys => (match nth xs i, nth ys i with
      | some x, some y => .yld (.ref h.n) (h.new (.tup [x, y]))
      | _, _ => .stop)
    | _, _ => .no)
  | .rev l => (match litems h l with
    | some xs => (match nth xs.reverse i with
      | some x => .yld x h
      | none => .stop)
    | none => .no)
abbrev IM := Sl → AH → Res MIt
/-! ### targets -/
inductive Tg where
  | nm (i : Nat) | tp (is : List Nat)
def sputs : Sl → List Nat → List W → Option Sl
  | σ, [], [] => some σ
  | σ, i :: is, x :: xs => sputs (sput σ i (some x)) is xs
  | _, _, _ => none
def seqItems (h : AH) (l : Loc) : Option (List W) := match h.get l with
  | some (.tup xs) => some xs
  | _ => none
def Tg.put (t : Tg) (x : W) (σ : Sl) (h : AH) : Option Sl := match t with
  | .nm i => some (sput σ i (some x))
  | .tp is => (match x with
    | .ref l => (match titems h l with
      | some xs => sputs σ is xs
      | none => none)
    | _ => none)
/-! ### comprehensions -/
/-- the new list stands at d -/
def lcLoop (J : MIt) (t : Tg) (own : List Nat) (c : CM) (e : EM) (d : Loc) (σ : Sl) : Nat → Nat → AH → Res W
  | 0, _, _ => .no
  | f + 1, i, h => match J.next i h with
    | .no => .no
    | .stop => .ok (.ref d) h
    | .yld x h1 => match t.put x σ h1 with
      | none => .no
      | some σ1 => match c σ1 h1 with
        | .ok false h2 => lcLoop J t own c e d σ f (i + 1) h2
        | .ok true h2 => (match e σ1 h2 with
          | .ok y h3 => (match h3.get d with
            | some (.lst acc) => (match Nat.blt acc.length 1000000 with
              | true => lcLoop J t own c e d σ f (i + 1) (h3.put d (.lst (acc ++ [y])))
              | false => .no)
            | _ => .no)
          | _ => .no)
        | _ => .no
def eLc (it : IM) (t : Tg) (own : List Nat) (c : CM) (e : EM) : EM := fun σ h => (it σ h).bind fun J h1 => lcLoop J t own c e h1.n (swipe σ own) 1000001 0 (h1.new (.lst []))
/-! ### statements -/
def sNx : SM := fun σ h => .nx σ h
def sNo : SM := fun _ _ => .no
def sSeq (a b : SM) : SM := fun σ h => match a σ h with
  | .nx σ' h' => b σ' h'
  | r => r
def Res.toSR {α : Type} (r : Res α) (σ : Sl) (k : α → AH → SR) : SR := match r with
  | .ok a h => k a h
  | .exc c d h => .exc c d σ h
  | .no => .no
def sIf (c : CM) (a b : SM) : SM := fun σ h => (c σ h).toSR σ fun t h1 => match t with
  | true => a σ h1
  | false => b σ h1
def sRet (e : EM) : SM := fun σ h => (e σ h).toSR σ fun v h1 => .rt v h1
def sRetN : SM := fun _ h => .rt .non h
def sDrop (e : EM) : SM := fun σ h => (e σ h).toSR σ fun _ h1 => .nx σ h1
def sSet (i : Nat) (e : EM) : SM := fun σ h => (e σ h).toSR σ fun v h1 => .nx (sput σ i (some v)) h1
def sTgt (t : Tg) (e : EM) : SM := fun σ h => (e σ h).toSR σ fun v h1 => match t.put v σ h1 with
  | some σ' => .nx σ' h1
  | none => .no
def sBk : SM := fun σ h => .bk σ h
def sCt : SM := fun σ h => .ct σ h
def forLoop (J : MIt) (t : Tg) (b : SM) : Nat → Nat → Sl → AH → SR
  | 0, _, _, _ => .no
  | f + 1, i, σ, h => match J.next i h with
    | .no => .no
    | .stop => .nx σ h
    | .yld x h1 => match t.put x σ h1 with
      | none => .no
      | some σ1 => match b σ1 h1 with
        | .nx σ2 h2 => forLoop J t b f (i + 1) σ2 h2
        | .ct σ2 h2 => forLoop J t b f (i + 1) σ2 h2
        | .bk σ2 h2 => .nx σ2 h2
        | r => r
def sFor (it : IM) (t : Tg) (b : SM) : SM := fun σ h => (it σ h).toSR σ fun J h1 => forLoop J t b 1000001 0 σ h1
def whileLoop (c : CM) (b : SM) : Nat → Sl → AH → SR
  | 0, _, _ => .no
  | f + 1, σ, h => match c σ h with
    | .ok false h1 => .nx σ h1
    | .ok true h1 => (match b σ h1 with
      | .nx σ2 h2 => whileLoop c b f σ2 h2
      | .ct σ2 h2 => whileLoop c b f σ2 h2
      | .bk σ2 h2 => .nx σ2 h2
      | r => r)
    | .exc x d h1 => .exc x d σ h1
    | .no => .no
def sWhile (c : CM) (b : SM) : SM := whileLoop c b 1000001
/-- o[i] = e: e first -/
def sSub (f : W → W → W → AH → Option AH) (e o i : EM) : SM := fun σ h => (e σ h).toSR σ fun v h1 => (o σ h1).toSR σ fun x h2 => (i σ h2).toSR σ fun y h3 => match f x y v h3 with
  | some h4 => .nx σ h4
  | none => .no
def sAug (f : Op2) (i : Nat) (e : EM) : SM := fun σ h => match sget σ i with
  | none => .no
  | some x => (e σ h).toSR σ fun y h1 => match f x y h1 with
    | some (z, h2) => .nx (sput σ i (some z)) h2
    | none => .no
/-- raise: the maker gives the exception's class and dict -/
def sRaise (mk : Sl → AH → Res (Nat × Loc)) : SM := fun σ h => (mk σ h).toSR σ fun p h1 => .exc p.1 p.2 σ h1
/-! ### defs -/
def start (n : Nat) (vs : List W) : Sl := vs.map some ++ List.replicate (n - vs.length) none
/-- n slots, k of them parameters -/
def callM (n k : Nat) (b : SM) : Fn := fun vs h => match Nat.beq vs.length k with
  | false => .no
  | true => match b (start n vs) h with
    | .nx _ h' => .ok .non h'
    | .rt v h' => .ok v h'
    | .exc c d _ h' => .exc c d h'
    | _ => .no
end Pm
/-! PmRel: how the small heap lies in the layer's heap; what a meaning says of a reading. -/
namespace Pm
open PySem PySem.Spec
open L2 (V Hp HO Cx Inv PE PT PA PS PSs TE TT TA TS St VK XK WX Ends RelV Vals upd upd_same upd_ne Takes)

/-! ### data with letters, and the data that it stands for -/
def tx : PyData → Str
  | .str x => x
  | _ => ""
mutual
def SD.g (ρ : Nat → Int) : SD → PyData
  | .non => .none
  | .bl b => .bool b
  | .int i => .int i
  | .sym k a c => .int (a * ρ k + c)
  | .str x => .str ⟨x.toArray⟩
  | .rep d => .str (d.g ρ).shown
  | .cat d e => .str (tx (d.g ρ) ++ tx (e.g ρ))
  | .lst xs => .list (SD.gs ρ xs)
  | .tup xs => .tuple (SD.gs ρ xs)
  | .dct ks vs => .dict ((SD.gs ρ ks).zip (SD.gs ρ vs))
def SD.gs (ρ : Nat → Int) : List SD → List PyData
  | [] => []
  | d :: r => d.g ρ :: SD.gs ρ r
end

/-! ### the map of places, of activations' cells -/
structure Mp where
  as : List Addr
  cs : List (List (Str × Addr))
structure Mp.Le (m m' : Mp) : Prop where
  as : m.as <+: m'.as
  cs : m.cs <+: m'.cs
theorem Mp.Le.refl (m : Mp) : m.Le m := ⟨List.prefix_refl _, List.prefix_refl _⟩
theorem Mp.Le.trans {a b c : Mp} (x : a.Le b) (y : b.Le c) : a.Le c := ⟨x.as.trans y.as, x.cs.trans y.cs⟩
theorem pre_get {α : Type} {l l' : List α} (h : l <+: l') {i : Nat} {x : α} (e : l[i]? = some x) : l'[i]? = some x := by
  obtain ⟨r, rfl⟩ := h
  obtain ⟨hi, he⟩ := List.getElem?_eq_some_iff.mp e
  rw [List.getElem?_append_left hi]
  exact e
theorem Mp.Le.at {m m' : Mp} (x : m.Le m') {l : Nat} {a : Addr} (e : m.as[l]? = some a) : m'.as[l]? = some a := pre_get x.as e
def Mp.snoc (m : Mp) (a : Addr) : Mp := ⟨m.as ++ [a], m.cs⟩
theorem Mp.le_snoc (m : Mp) (a : Addr) : m.Le (m.snoc a) := ⟨List.prefix_append _ _, List.prefix_refl _⟩

/-- what stands still through a law: the program's text, where its things stand, the letters' values; m0: what was there when this def was entered -/
structure Gx where
  K : PySem.W.Frag
  sa : Addr
  ga : Nat → Addr
  ρ : Nat → Int
  ρ0 : ∀ k, 0 ≤ ρ k ∧ ρ k ≤ 1000000000000000000000000000000
  rw : Nat → Int
  ns : List Int
  m0 : Mp
  tt : List (Addr × Str)
  lamAt : Nat → List (Str × Addr) → Addr → Heap → Prop

def VR (G : Gx) (m : Mp) : W → V → Prop
  | .non, v => v = .non
  | .bl b, v => v = .bl b
  | .int i, v => v = .int i
  | .sym k a c, v => v = .int (a * G.ρ k + c)
  | .txt d, v => v = .str (tx (d.g G.ρ))
  | .ref l, v => ∃ a, m.as[l]? = some a ∧ v = .ref a
  | .ty n, v => v = .ty n.nm
  | .glo g, v => v = .ref (G.ga g)
  | .scr, v => v = .ref G.sa
  | .raw k, v => v = .int (G.rw k)
abbrev VRs (G : Gx) (m : Mp) : List W → List V → Prop := Paired (VR G m)
theorem VR.mono {G : Gx} {m m' : Mp} (x : m.Le m') : ∀ {w : W} {v : V}, VR G m w v → VR G m' w v
  | .non, _, h => h
  | .bl _, _, h => h
  | .int _, _, h => h
  | .sym _ _ _, _, h => h
  | .txt _, _, h => h
  | .ref _, _, ⟨a, e, q⟩ => ⟨a, x.at e, q⟩
  | .ty _, _, h => h
  | .glo _, _, h => h
  | .scr, _, h => h
  | .raw _, _, h => h
theorem VRs.mono {G : Gx} {m m' : Mp} (x : m.Le m') {ws : List W} {vs : List V} (h : VRs G m ws vs) : VRs G m' ws vs := L2.Paired.mapP h fun _ _ => VR.mono x

/-- an exception of the class cls that a suite has caught, its own dict at d -/
def ExcO (cls : Value) (d : Option Addr) (a : Addr) : HO := .ext fun h => ∃ (oe : Obj) (vs : Array Value), h.get? a = some oe ∧ L2.Zc cls d oe ∧ oe.data = .fields vs

/-- a dict's key -/
def kof : Sum Int (List Nat) → L2.Key
  | .inl i => .inl i
  | .inr x => .inr ⟨x.toArray⟩
def CR (G : Gx) (m : Mp) (a : Addr) : Cell → HO → Prop
  | .lst ws, o => ∃ vs, VRs G m ws vs ∧ o = .lst vs
  | .tup ws, o => ∃ vs, VRs G m ws vs ∧ o = .tup vs
  | .dct kvs, o => ∃ kv', Paired (fun (p : Sum Int (List Nat) × W) (q : L2.Key × V) => kof p.1 = q.1 ∧ VR G m p.2 q.2) kvs kv' ∧ o = .dK kv'
  | .set xs, o => xs.Nodup ∧ o = .set (fun i => decide (i ∈ xs)) xs.length
  | .xd w, o => ∃ v, VR G m w v ∧ o = .xd [("value", v)]
  | .exc c d, o => ∃ ad, m.as[d]? = some ad ∧ o = ExcO (.ref (G.ga c)) (some ad) a
  | .exn c, o => o = ExcO (.ref (G.ga c)) none a
  | .lam i act, o => ∃ cl φ, (act = none → cl = []) ∧ (∀ k, act = some k → m.cs[k]? = some cl) ∧ o = .ext φ ∧ ∀ h, φ h → G.lamAt i cl a h
theorem CR.mono {G : Gx} {m m' : Mp} {a : Addr} (x : m.Le m') : ∀ {c : Cell} {o : HO}, CR G m a c o → CR G m' a c o
  | .lst _, _, ⟨vs, r, e⟩ => ⟨vs, VRs.mono x r, e⟩
  | .tup _, _, ⟨vs, r, e⟩ => ⟨vs, VRs.mono x r, e⟩
  | .dct _, _, ⟨kv, r, e⟩ => ⟨kv, L2.Paired.mapP r fun _ _ z => ⟨z.1, VR.mono x z.2⟩, e⟩
  | .set _, _, h => h
  | .xd _, _, ⟨v, r, e⟩ => ⟨v, VR.mono x r, e⟩
  | .exc _ _, _, ⟨ad, r, e⟩ => ⟨ad, x.at r, e⟩
  | .exn _, _, h => h
  | .lam _ _, _, ⟨cl, φ, h1, h2, e, q⟩ => ⟨cl, φ, h1, fun k z => pre_get x.cs (h2 k z), e, q⟩

/-- the script: known to the object, or one of the module's own objects -/
def ScrR (K : PySem.W.Frag) (H : Hp) (a : Addr) (xs : List V) : Prop := (∃ ob, H a = some (.frz ob (.lst xs))) ∨ L2.SqL K (fun _ => none) a xs
theorem ScrR.sq {K : PySem.W.Frag} {H : Hp} {a : Addr} {xs : List V} (h : ScrR K H a xs) : L2.SqL K H a xs := by
  rcases h with ⟨ob, e⟩ | (q | q)
  · exact .inl (.inr ⟨ob, e⟩)
  · rcases q with q | ⟨ob, q⟩ <;> cases q
  · exact .inr q
theorem sq_upd {K : PySem.W.Frag} {H : Hp} {a : Addr} {xs : List V} (h : ScrR K H a xs) {p : Addr} {o : HO} (np : ∀ ob, H p ≠ some (.frz ob (.lst xs))) : ScrR K (upd H p o) a xs := by
  rcases h with ⟨ob, e⟩ | q
  · exact .inl ⟨ob, by rw [upd_ne (fun z => by rw [z] at e; exact np ob e)]; exact e⟩
  · exact .inr q

structure Rel (G : Gx) (m : Mp) (h : AH) (H : Hp) : Prop where
  pre : G.m0.Le m
  len : m.as.length = h.n
  act : m.cs.length = h.k
  nd : m.as.Nodup
  cell : ∀ l a, m.as[l]? = some a → ∃ c o, h.get l = some c ∧ H a = some o ∧ CR G m a c o
  tab : LamX.Tabs G.tt H
  scr : ScrR G.K H G.sa (h.s.map V.int)
  sn : h.s = G.ns
theorem Rel.see {G : Gx} {m : Mp} {h : AH} {H : Hp} (R : Rel G m h H) {l : Loc} {a : Addr} {c : Cell} (e : m.as[l]? = some a) (hc : h.get l = some c) : ∃ o, H a = some o ∧ CR G m a c o := by
  obtain ⟨c', o, e1, e2, e3⟩ := R.cell l a e
  rw [hc] at e1
  cases e1
  exact ⟨o, e2, e3⟩
/-- a new object -/
theorem Rel.new {G : Gx} {m : Mp} {h : AH} {H : Hp} (R : Rel G m h H) {p : Addr} (np : H p = none) {c : Cell} {o : HO} (r : CR G (m.snoc p) p c o) : Rel G (m.snoc p) (h.new c) (upd H p o) where
  pre := R.pre.trans (m.le_snoc p)
  len := by
    show (m.as ++ [p]).length = h.n + 1
    rw [List.length_append, R.len]
    rfl
  act := R.act
  sn := R.sn
  nd := by
    show (m.as ++ [p]).Nodup
    rw [List.nodup_append]
    refine ⟨R.nd, List.nodup_cons.mpr ⟨List.not_mem_nil, List.nodup_nil⟩, fun x hx y hy => ?_⟩
    obtain ⟨i, hi⟩ := List.mem_iff_getElem?.mp hx
    obtain ⟨c', o', _, e2, _⟩ := R.cell i x hi
    have ey : y = p := by simpa using hy
    rw [ey]
    exact L2.ne_of_none e2 np
  cell := fun l a e => by
    have e' : (m.as ++ [p])[l]? = some a := e
    rw [AH.get_new]
    by_cases hl : l = h.n
    · rw [if_pos hl]
      rw [hl, ← R.len, List.getElem?_concat_length] at e'
      cases e'
      exact ⟨c, o, rfl, upd_same, r⟩
    · rw [if_neg hl]
      have lt : l < m.as.length := by
        obtain ⟨hi, _⟩ := List.getElem?_eq_some_iff.mp e'
        have hi2 : l < m.as.length + 1 := by simpa using hi
        have := R.len
        exact Nat.lt_of_le_of_ne (Nat.le_of_lt_succ hi2) fun z => hl (z.trans R.len)
      rw [List.getElem?_append_left lt] at e'
      obtain ⟨c', o', e1, e2, e3⟩ := R.cell l a e'
      exact ⟨c', o', e1, by rw [upd_ne (L2.ne_of_none e2 np)]; exact e2, e3.mono (m.le_snoc p)⟩
  tab := R.tab.ext fun b u q => by
    rw [upd_ne (L2.ne_of_none q np)]
    exact q
  scr := sq_upd R.scr fun ob z => by
    rw [np] at z
    cases z
/-- a cell that may be written -/
def Cell.mut : Cell → Bool
  | .lst _ => true
  | .dct _ => true
  | .set _ => true
  | _ => false
theorem tabs_upd {T : List (Addr × Str)} {H : Hp} {a : Addr} {u o : HO} (t : LamX.Tabs T H) (e : H a = some u) (h1 : ∀ ps, u ≠ .tbl ps) (h2 : ∀ φ, u ≠ .ext φ) : LamX.Tabs T (upd H a o) := fun p hp => by
  obtain ⟨ps, a1, a2, a3⟩ := t p hp
  have n1 : p.1 ≠ a := fun z => by
    rw [z, e] at a1
    exact h1 ps (Option.some.inj a1)
  refine ⟨ps, by rw [upd_ne n1]; exact a1, a2, fun pos cv hc => ?_⟩
  obtain ⟨c, e1, e2⟩ := a3 pos cv hc
  have n2 : c ≠ a := fun z => by
    rw [z, e] at e2
    exact h2 _ (Option.some.inj e2)
  exact ⟨c, e1, by rw [upd_ne n2]; exact e2⟩
theorem Rel.put {G : Gx} {m : Mp} {h : AH} {H : Hp} (R : Rel G m h H) {l : Loc} {a : Addr} {c c' : Cell} {o : HO} (e : m.as[l]? = some a) (hc : h.get l = some c) (hm : c.mut = true) (r : CR G m a c' o) : Rel G m (h.put l c') (upd H a o) where
  pre := R.pre
  len := R.len
  act := R.act
  sn := R.sn
  nd := R.nd
  cell := fun l' a' e' => by
    rw [AH.get_put]
    by_cases hl : l' = l
    · rw [if_pos hl]
      rw [hl, e] at e'
      cases e'
      exact ⟨c', o, rfl, upd_same, r⟩
    · rw [if_neg hl]
      obtain ⟨c1, o1, e1, e2, e3⟩ := R.cell l' a' e'
      have ne : a' ≠ a := fun z => by
        subst z
        obtain ⟨i1, q1⟩ := List.getElem?_eq_some_iff.mp e
        obtain ⟨i2, q2⟩ := List.getElem?_eq_some_iff.mp e'
        exact hl ((List.getElem_inj R.nd).mp (q2.trans q1.symm))
      exact ⟨c1, o1, e1, by rw [upd_ne ne]; exact e2, e3⟩
  scr := sq_upd R.scr fun ob z => by
    obtain ⟨o1, e2, e3⟩ := R.see e hc
    rw [z] at e2
    cases e2
    cases c with
    | lst _ => obtain ⟨_, _, q⟩ := e3; cases q
    | dct _ => obtain ⟨_, _, q⟩ := e3; cases q
    | set _ => obtain ⟨_, q⟩ := e3; cases q
    | _ => cases hm
  tab := by
    obtain ⟨o1, e2, e3⟩ := R.see e hc
    refine tabs_upd R.tab e2 (fun ps z => ?_) (fun φ z => ?_)
    · subst z
      cases c with
      | lst _ => obtain ⟨_, _, q⟩ := e3; cases q
      | dct _ => obtain ⟨_, _, q⟩ := e3; cases q
      | set _ => obtain ⟨_, q⟩ := e3; cases q
      | _ => cases hm
    · subst z
      cases c with
      | lst _ => obtain ⟨_, _, q⟩ := e3; cases q
      | dct _ => obtain ⟨_, _, q⟩ := e3; cases q
      | set _ => obtain ⟨_, q⟩ := e3; cases q
      | _ => cases hm

/-! ### slots -/
def S1 (G : Gx) (m : Mp) : Option W → Option V → Prop
  | none, _ => True
  | some w, v => ∃ x, v = some x ∧ VR G m w x
abbrev SlR (G : Gx) (m : Mp) : Sl → St → Prop := Paired (S1 G m)
theorem S1.mono {G : Gx} {m m' : Mp} (x : m.Le m') : ∀ {a : Option W} {v : Option V}, S1 G m a v → S1 G m' a v
  | none, _, _ => trivial
  | some _, _, ⟨y, e, r⟩ => ⟨y, e, VR.mono x r⟩
theorem SlR.mono {G : Gx} {m m' : Mp} (x : m.Le m') {a : Sl} {σ : St} (h : SlR G m a σ) : SlR G m' a σ := L2.Paired.mapP h fun _ _ => S1.mono x
theorem SlR.get {G : Gx} {m : Mp} : ∀ {a : Sl} {σ : St} {i : Nat} {w : W}, SlR G m a σ → sget a i = some w → ∃ x, σ[i]? = some (some x) ∧ VR G m w x
  | _, _, _, _, .nil, e => by simp [sget] at e
  | _, _, 0, w, .cons (a := a) (b := b) h _, e => by
    have e' : a = some w := by simpa [sget] using e
    subst e'
    obtain ⟨x, rfl, r⟩ := h
    exact ⟨x, rfl, r⟩
  | _, _, i + 1, w, .cons _ t, e => by
    obtain ⟨x, q, r⟩ := SlR.get (i := i) (w := w) t (by simpa [sget] using e)
    exact ⟨x, by simpa using q, r⟩
theorem SlR.put {G : Gx} {m : Mp} {a : Option W} {v : Option V} (r : S1 G m a v) : ∀ {s : Sl} {σ : St} (i : Nat), SlR G m s σ → SlR G m (sput s i a) (σ.set i v)
  | _, _, _, .nil => .nil
  | _, _, 0, .cons _ t => .cons r t
  | _, _, i + 1, .cons q t => .cons q (SlR.put r i t)
theorem SlR.wipe {G : Gx} {m : Mp} {s : Sl} {σ : St} (h : SlR G m s σ) : ∀ vs : List Nat, SlR G m (swipe s vs) (L2.wipe σ vs)
  | [] => h
  | v :: vs => SlR.put (a := none) (v := none) trivial v (SlR.wipe h vs)

/-! ### what a result gives -/
/-- R: how the answers are related -/
def Sat {α β : Type} (G : Gx) (m : Mp) (E : XK) (R : Mp → α → β → Prop) : Res α → (β → Hp → Prop) → Prop
  | .ok a h, Q => ∀ m' H' b, m.Le m' → Rel G m' h H' → R m' a b → Q b H'
  | .exc c d h, _ => ∀ m' H' ad, m.Le m' → Rel G m' h H' → m'.as[d]? = some ad → E (.ref (G.ga c)) (some ad) H'
  | .no, _ => False
theorem Sat.mono {α β : Type} {G : Gx} {m m1 : Mp} {E : XK} {R : Mp → α → β → Prop} (x : m.Le m1) : ∀ {r : Res α} {Q : β → Hp → Prop}, Sat G m E R r Q → Sat G m1 E R r Q
  | .ok _ _, _, h => fun m' H' b y => h m' H' b (x.trans y)
  | .exc _ _ _, _, h => fun m' H' ad y => h m' H' ad (x.trans y)
  | .no, _, h => h
theorem Sat.imp {α β : Type} {G : Gx} {m : Mp} {E : XK} {R : Mp → α → β → Prop} : ∀ {r : Res α} {Q Q' : β → Hp → Prop}, Sat G m E R r Q → (∀ b H', Q b H' → Q' b H') → Sat G m E R r Q'
  | .ok _ _, _, _, h, f => fun m' H' b y r q => f b H' (h m' H' b y r q)
  | .exc _ _ _, _, _, h, _ => h
  | .no, _, _, h, _ => h
theorem Sat.impE {α β : Type} {G : Gx} {m : Mp} {E E' : XK} {R : Mp → α → β → Prop} (f : ∀ c d H, E c d H → E' c d H) : ∀ {r : Res α} {Q : β → Hp → Prop}, Sat G m E R r Q → Sat G m E' R r Q
  | .ok _ _, _, h => h
  | .exc _ _ _, _, h => fun m' H' ad y r q => f _ _ _ (h m' H' ad y r q)
  | .no, _, h => h
/-- the answer with the state that it comes in -/
def Mid {α β : Type} (G : Gx) (m : Mp) (R : Mp → α → β → Prop) (P : Mp → α → AH → Prop) (b : β) (H' : Hp) : Prop := ∃ m' a h', m.Le m' ∧ Rel G m' h' H' ∧ R m' a b ∧ P m' a h'
theorem Sat.bind {α β γ δ : Type} {G : Gx} {m : Mp} {E : XK} {R : Mp → α → β → Prop} {R' : Mp → γ → δ → Prop} {k : α → AH → Res γ} {Q : δ → Hp → Prop} :
    ∀ {r : Res α}, Sat G m E R' (r.bind k) Q → Sat G m E R r (Mid G m R fun m' a h' => Sat G m' E R' (k a h') Q)
  | .ok a h, s => fun m' _ _ x r q => ⟨m', a, h, x, r, q, s.mono x⟩
  | .exc _ _ _, s => s
  | .no, s => s
/-- a meaning as a reading -/
def tX {α β : Type} (G : Gx) (W : WX) (R : Mp → α → β → Prop) (g : Sl → AH → Res α) : St → Hp → (β → Hp → Prop) → Prop := fun σ H Q => ∃ m h s, Rel G m h H ∧ SlR G m s σ ∧ Sat G m (fun c d H => W c d σ H) R (g s h) Q
abbrev RB : Mp → Bool → Bool → Prop := fun _ a b => a = b
abbrev tE (G : Gx) (W : WX) (g : EM) : TE := tX G W (VR G) g
abbrev tC (G : Gx) (W : WX) (g : CM) : TT := tX G W RB g
abbrev tA (G : Gx) (W : WX) (g : AM) : TA := tX G W (VRs G) g
def SatS (G : Gx) (m : Mp) (W : WX) (D : Ends) : SR → Prop
  | .nx s h => ∀ m' σ H', m.Le m' → Rel G m' h H' → SlR G m' s σ → D.nx σ H'
  | .rt w h => ∀ m' H' v, m.Le m' → Rel G m' h H' → VR G m' w v → D.rt v H'
  | .bk s h => ∀ m' σ H', m.Le m' → Rel G m' h H' → SlR G m' s σ → D.bk σ H'
  | .ct s h => ∀ m' σ H', m.Le m' → Rel G m' h H' → SlR G m' s σ → D.ct σ H'
  | .exc c d s h => ∀ m' σ H' ad, m.Le m' → Rel G m' h H' → SlR G m' s σ → m'.as[d]? = some ad → W (.ref (G.ga c)) (some ad) σ H'
  | .no => False
theorem SatS.mono {G : Gx} {m m1 : Mp} {W : WX} {D : Ends} (x : m.Le m1) : ∀ {r : SR}, SatS G m W D r → SatS G m1 W D r
  | .nx _ _, h => fun m' σ H' y => h m' σ H' (x.trans y)
  | .rt _ _, h => fun m' σ H' y => h m' σ H' (x.trans y)
  | .bk _ _, h => fun m' σ H' y => h m' σ H' (x.trans y)
  | .ct _ _, h => fun m' σ H' y => h m' σ H' (x.trans y)
  | .exc _ _ _ _, h => fun m' σ H' ad y => h m' σ H' ad (x.trans y)
  | .no, h => h
def tS (G : Gx) (W : WX) (g : SM) : TS := fun D σ H => ∃ m h s, Rel G m h H ∧ SlR G m s σ ∧ SatS G m W D (g s h)
theorem Sat.toSR {α β : Type} {G : Gx} {m : Mp} {W : WX} {D : Ends} {R : Mp → α → β → Prop} {s : Sl} {σ : St} {k : α → AH → SR} (S : SlR G m s σ) :
    ∀ {r : Res α}, SatS G m W D (r.toSR s k) → Sat G m (fun c d H => W c d σ H) R r (Mid G m R fun m' a h' => SatS G m' W D (k a h'))
  | .ok a h, q => fun m' _ _ x r z => ⟨m', a, h, x, r, z, q.mono x⟩
  | .exc _ _ _, q => fun m' H' ad x r z => q m' σ H' ad x r (S.mono x) z
  | .no, q => q

/-! ### weaker readings -/
theorem pe_of {X : Cx} {e : Expr} {t t' : TE} (h : PE X e t) (f : ∀ σ H Q, t' σ H Q → t σ H Q) : PE X e t' := ⟨fun pins s σ H Q I q => h.run pins s σ H Q I (f σ H Q q)⟩
theorem pt_of {X : Cx} {e : Expr} {t t' : TT} (h : PT X e t) (f : ∀ σ H Q, t' σ H Q → t σ H Q) : PT X e t' := ⟨fun pins s σ H Q I q => h.run pins s σ H Q I (f σ H Q q)⟩
theorem pa_of {X : Cx} {es : List Expr} {t t' : TA} (h : PA X es t) (f : ∀ σ H Q, t' σ H Q → t σ H Q) : PA X es t' := ⟨fun pos pins s σ H Q I q => h.run pos pins s σ H Q I (f σ H Q q)⟩
theorem ps_of {X : Cx} {st : Stmt} {t t' : TS} (h : PS X st t) (f : ∀ D σ H, t' D σ H → t D σ H) : PS X st t' := ⟨fun pins s σ H D I q => h.run pins s σ H D I (f D σ H q)⟩
theorem pss_of {X : Cx} {st : List Stmt} {t t' : TS} (h : PSs X st t) (f : ∀ D σ H, t' D σ H → t D σ H) : PSs X st t' := ⟨fun pins s σ H D I q => h.run pins s σ H D I (f D σ H q)⟩
end Pm
/-! PmExp: the rules of expressions, tests, arguments, calls. -/
namespace Pm
open PySem PySem.Spec
open L2 (V Hp HO Cx Inv PE PT PA PS PSs PW TE TT TA TS St VK XK WX Ends RelV Vals upd upd_same upd_ne Takes R2 OpR CallR tOp tVar Vis Gl FnOk Room Binds)
section
variable {X : Cx} {G : Gx} {Z : WX} {pos : Pos}

/-! ### names, constants -/
theorem pm_var {i : Nat} {x : Str} (hN : X.N[i]? = some x := by rfl) (hv : Vis X.env.scope x := by first | exact Or.inl rfl | exact Or.inr (Or.inl rfl) | exact Or.inr (Or.inr rfl)) (hd : (x == ("__debug__" : Str)) = false := by decide) (hcd : (x == ("__classdict__" : Str)) = false := by decide) :
    PE X (.Name x pos) (tE G Z (eVar i)) := pe_of (L2.pe_var hN hv hd hcd) fun σ H Q h => by
  obtain ⟨m, h, s, R, S, q⟩ := h
  unfold eVar at q
  cases e : sget s i with
  | none =>
    rw [e] at q
    exact q.elim
  | some w =>
    rw [e] at q
    obtain ⟨x, e1, r⟩ := S.get e
    exact ⟨x, e1, q m H x (.refl m) R r⟩
/-- a constant's reading -/
theorem c_read {w : W} {v : V} (r : ∀ m, VR G m w v) {σ : St} {H : Hp} {Q : VK} (h : tE G Z (eC w) σ H Q) : L2.tC v σ H Q := by
  obtain ⟨m, h, s, R, S, q⟩ := h
  exact q m H v (.refl m) R (r m)
theorem pm_int {i j} : PE X (.Constant (.int i) j pos) (tE G Z (eC (.int i))) := pe_of L2.pe_int fun _ _ _ => c_read (by intro _; exact rfl)
theorem pm_bl {b j} : PE X (.Constant (.bool b) j pos) (tE G Z (eC (.bl b))) := pe_of L2.pe_bl fun _ _ _ => c_read (by intro _; exact rfl)
theorem pm_non {j} : PE X (.Constant .none j pos) (tE G Z (eC .non)) := pe_of L2.pe_non fun _ _ _ => c_read (by intro _; exact rfl)
theorem pm_str {x : Str} {j} (cs : List Nat) (h : x = ⟨cs.toArray⟩) : PE X (.Constant (.str x) j pos) (tE G Z (eC (.txt (.str cs)))) := by
  subst h
  exact pe_of L2.pe_str fun _ _ _ => c_read (by intro _; exact rfl)
theorem pm_glob {x : Str} {g : Nat} (hg : Gl X x) (hm : X.mg x = some (.ref (G.ga g))) (hd : (x == ("__debug__" : Str)) = false := by decide) : PE X (.Name x pos) (tE G Z (eC (.glo g))) := pe_of (L2.pe_glob (v := .ref (G.ga g)) hg hm rfl hd) fun _ _ _ => c_read (by intro _; exact rfl)
theorem pm_globi {x : Str} {i : Int} {t : Tok} (hg : Gl X x) (hm : X.mg x = some (.int i t)) (hd : (x == ("__debug__" : Str)) = false := by decide) : PE X (.Name x pos) (tE G Z (eC (.int i))) := pe_of (L2.pe_glob (v := .int i) hg hm ⟨t, rfl⟩ hd) fun _ _ _ => c_read (by intro _; exact rfl)
theorem pm_ty {x : Str} {n : Ty} (hg : Gl X x) (hm : X.mg x = none) (hv : bootBuiltins x = some (.type n.nm)) (hn : x ≠ "__name__" := by decide) (hd : (x == ("__debug__" : Str)) = false := by decide) : PE X (.Name x pos) (tE G Z (eC (.ty n))) := pe_of (L2.pe_bltn (v := .ty n.nm) hg hm hv rfl hn hd) fun _ _ _ => c_read (by intro _; exact rfl)
theorem pm_no {e : Expr} : PE X e (tE G Z eNo) := ⟨fun _ _ _ _ _ _ h => by
  obtain ⟨m, h, s, R, S, q⟩ := h
  exact q.elim⟩

/-! ### operators -/
/-- an operator by values, as a reading -/
def rO (G : Gx) (f : Op2) : R2 := fun x y H Q => ∃ m h a b, Rel G m h H ∧ VR G m a x ∧ VR G m b y ∧ Sat G m (fun _ _ _ => False) (VR G) (ofO (f a b h)) Q
def rU (G : Gx) (f : Op1) : V → Hp → VK → Prop := fun x H Q => ∃ m h a, Rel G m h H ∧ VR G m a x ∧ Sat G m (fun _ _ _ => False) (VR G) (ofO (f a h)) Q
def rN (G : Gx) (f : OpN) : List V → Hp → VK → Prop := fun xs H Q => ∃ m h as, Rel G m h H ∧ VRs G m as xs ∧ Sat G m (fun _ _ _ => False) (VR G) (ofO (f as h)) Q
theorem Sat.ofO {α β : Type} {m : Mp} {E E' : XK} {R : Mp → α → β → Prop} {r : Option (α × AH)} {Q : β → Hp → Prop} (h : Sat G m E R (ofO r) Q) : Sat G m E' R (ofO r) Q := by
  cases r with
  | none => exact h
  | some p => exact h
theorem op2_read {f : Op2} {a b : EM} {σ : St} {H : Hp} {Q : VK} (h : tE G Z (eOp2 f a b) σ H Q) : tOp (rO G f) (tE G Z a) (tE G Z b) σ H Q := by
  obtain ⟨m, h, s, R, S, q⟩ := h
  refine ⟨m, h, s, R, S, (Sat.bind (R := VR G) q).imp fun x H1 z => ?_⟩
  obtain ⟨m1, wa, h1, l1, R1, ra, q1⟩ := z
  refine ⟨m1, h1, s, R1, S.mono l1, (Sat.bind (R := VR G) q1).imp fun y H2 z => ?_⟩
  obtain ⟨m2, wb, h2, l2, R2, rb, q2⟩ := z
  exact ⟨m2, h2, wa, wb, R2, ra.mono l2, rb, q2.ofO⟩
theorem pm_op2 {op : Operator} {f : Op2} {a b : Expr} {ga gb : EM} (ho : OpR X (binaryOp op) (rO G f)) (ha : PE X a (tE G Z ga)) (hb : PE X b (tE G Z gb)) : PE X (.BinOp a op b pos) (tE G Z (eOp2 f ga gb)) :=
  pe_of (L2.pe_op ho ha hb) fun _ _ _ => op2_read
theorem pm_cmp {op : CmpOp} {f : Op2} {a b : Expr} {ga gb : EM} (ho : OpR X (compareOp op) (rO G f)) (ha : PE X a (tE G Z ga)) (hb : PE X b (tE G Z gb)) (hm : behindInMarks op b = false := by first | exact L2.nomark _ | rfl) : PE X (.Compare a [op] [b] pos) (tE G Z (eOp2 f ga gb)) :=
  pe_of (L2.pe_cmpR ho ha hb hm) fun _ _ _ => op2_read
theorem op1_read {f : Op1} {a : EM} {σ : St} {H : Hp} {Q : VK} (h : tE G Z (eOp1 f a) σ H Q) : L2.tUn (rU G f) (tE G Z a) σ H Q := by
  obtain ⟨m, h, s, R, S, q⟩ := h
  refine ⟨m, h, s, R, S, (Sat.bind (R := VR G) q).imp fun x H1 z => ?_⟩
  obtain ⟨m1, wa, h1, l1, R1, ra, q1⟩ := z
  exact ⟨m1, h1, wa, R1, ra, q1.ofO⟩
theorem pm_un {op : UnaryOp} {f : Op1} {a : Expr} {ga : EM} (ho : L2.UnR X (unaryOp op) (rU G f)) (ha : PE X a (tE G Z ga)) : PE X (.UnaryOp op a pos) (tE G Z (eOp1 f ga)) := pe_of (L2.pe_un ho ha) fun _ _ _ => op1_read
theorem chain_read {f g : Op2} {a b c : EM} {σ : St} {H : Hp} {Q : VK} (h : tE G Z (eChain f g a b c) σ H Q) : L2.tChain (rO G f) (rO G g) (tE G Z a) (tE G Z b) (tE G Z c) σ H Q := by
  obtain ⟨m, h, s, R, S, q⟩ := h
  refine ⟨m, h, s, R, S, (Sat.bind (R := VR G) q).imp fun x H1 z => ?_⟩
  obtain ⟨m1, wa, h1, l1, R1, ra, q1⟩ := z
  refine ⟨m1, h1, s, R1, S.mono l1, (Sat.bind (R := VR G) q1).imp fun y H2 z => ?_⟩
  obtain ⟨m2, wb, h2, l2, R2, rb, q2⟩ := z
  refine ⟨m2, h2, wa, wb, R2, ra.mono l2, rb, (Sat.bind (R := VR G) q2).ofO.imp fun v H3 z => ?_⟩
  obtain ⟨m3, t, h3, l3, R3, rt, q3⟩ := z
  cases t with
  | bl k =>
    refine ⟨k, rt, ?_⟩
    cases k with
    | false => exact q3 m3 H3 _ (.refl m3) R3 rfl
    | true =>
      refine ⟨m3, h3, s, R3, S.mono ((l1.trans l2).trans l3), (Sat.bind (R := VR G) q3).imp fun u H4 z => ?_⟩
      obtain ⟨m4, wc, h4, l4, R4, rc, q4⟩ := z
      exact ⟨m4, h4, wb, wc, R4, rb.mono (l3.trans l4), rc, q4.ofO⟩
  | _ => exact q3.elim
theorem pm_chain {op op' : CmpOp} {f g : Op2} {a b c : Expr} {ga gb gc : EM} (ho : OpR X (compareOp op) (rO G f)) (ho' : OpR X (compareOp op') (rO G g)) (ha : PE X a (tE G Z ga)) (hb : PE X b (tE G Z gb)) (hc : PE X c (tE G Z gc))
    (hm : lastMarks [op, op'] [b, c] = false := by with_unfolding_all rfl) : PE X (.Compare a [op, op'] [b, c] pos) (tE G Z (eChain f g ga gb gc)) := pe_of (L2.pe_chain ho ho' ha hb hc hm) fun _ _ _ => chain_read

/-! ### tests -/
theorem val_read {e : EM} {σ : St} {H : Hp} {Q : Bool → Hp → Prop} (h : tC G Z (cVal e) σ H Q) : tE G Z e σ H fun x H1 => ∃ k, x = .bl k ∧ Q k H1 := by
  obtain ⟨m, h, s, R, S, q⟩ := h
  refine ⟨m, h, s, R, S, (Sat.bind (R := VR G) q).imp fun x H1 z => ?_⟩
  obtain ⟨m1, wa, h1, l1, R1, ra, q1⟩ := z
  cases wa with
  | bl k => exact ⟨k, ra, q1 m1 H1 k (.refl m1) R1 rfl⟩
  | _ => exact q1.elim
theorem pmt_val {e : Expr} {ge : EM} (h : PE X e (tE G Z ge)) (he : ∀ whole, isTrue e X.env whole = (do let v ← whole; standAt e.pos; holding [v] (truthy v)) := by intro _; rfl) : PT X e (tC G Z (cVal ge)) := pt_of (L2.pt_val h he) fun _ _ _ => val_read
theorem pmt_cmp {op : CmpOp} {f : Op2} {a b : Expr} {ga gb : EM} (ho : OpR X (compareOp op) (rO G f)) (ha : PE X a (tE G Z ga)) (hb : PE X b (tE G Z gb)) (hm : behindInMarks op b = false := by first | exact L2.nomark _ | rfl) : PT X (.Compare a [op] [b] pos) (tC G Z (cVal (eOp2 f ga gb))) :=
  pt_of (L2.pt_cmpR ho ha hb hm) fun _ _ _ h => op2_read (val_read h)
theorem pmt_chain {op op' : CmpOp} {f g : Op2} {a b c : Expr} {ga gb gc : EM} (ho : OpR X (compareOp op) (rO G f)) (ho' : OpR X (compareOp op') (rO G g)) (ha : PE X a (tE G Z ga)) (hb : PE X b (tE G Z gb)) (hc : PE X c (tE G Z gc))
    (hm : lastMarks [op, op'] [b, c] = false := by with_unfolding_all rfl) : PT X (.Compare a [op, op'] [b, c] pos) (tC G Z (cVal (eChain f g ga gb gc))) := pt_of (L2.pt_chain ho ho' ha hb hc hm) fun _ _ _ h => chain_read (val_read h)
theorem not_read {c : CM} {σ : St} {H : Hp} {Q : Bool → Hp → Prop} (h : tC G Z (cNot c) σ H Q) : L2.tNot (tC G Z c) σ H Q := by
  obtain ⟨m, h, s, R, S, q⟩ := h
  refine ⟨m, h, s, R, S, (Sat.bind (R := RB) q).imp fun x H1 z => ?_⟩
  obtain ⟨m1, a, h1, l1, R1, ra, q1⟩ := z
  cases ra
  exact q1 m1 H1 _ (.refl m1) R1 rfl
theorem pmt_not {a : Expr} {c : CM} (h : PT X a (tC G Z c)) : PT X (.UnaryOp .Not a pos) (tC G Z (cNot c)) := pt_of (L2.pt_not h) fun _ _ _ => not_read
theorem cond_read {c : CM} {k : Sl → Bool → AH → Res Bool} {t : TT} {σ : St} {H : Hp} {Q : Bool → Hp → Prop} (h : tX G Z RB (fun s h => (c s h).bind (k s)) σ H Q)
    {Q' : Bool → Hp → Prop} (f : ∀ b H1, (∃ m1 h1 s, Rel G m1 h1 H1 ∧ SlR G m1 s σ ∧ Sat G m1 (fun c d H => Z c d σ H) RB (k s b h1) Q) → Q' b H1) : tC G Z c σ H Q' := by
  obtain ⟨m, h, s, R, S, q⟩ := h
  refine ⟨m, h, s, R, S, (Sat.bind (R := RB) q).imp fun x H1 z => f x H1 ?_⟩
  obtain ⟨m1, a, h1, l1, R1, ra, q1⟩ := z
  cases ra
  exact ⟨m1, h1, s, R1, S.mono l1, q1⟩
theorem pmw_and {a b : Expr} {rest : List Expr} {ca cb : CM} (ha : PT X a (tC G Z ca)) (hb : PW X (.BoolOp .And (b :: rest) pos) (tC G Z cb)) : PW X (.BoolOp .And (a :: b :: rest) pos) (tC G Z (cAnd ca cb)) :=
  ⟨fun wh pins s σ H Q I h => (L2.pw_and ha hb).run wh pins s σ H Q I (cond_read (t := fun _ _ _ => True) h fun t H1 z => by
    obtain ⟨m1, h1, s1, R1, S1, q1⟩ := z
    cases t with
    | true => exact ⟨m1, h1, s1, R1, S1, q1⟩
    | false => exact q1 m1 H1 _ (.refl m1) R1 rfl)⟩
theorem pmw_or {a b : Expr} {rest : List Expr} {ca cb : CM} (ha : PT X a (tC G Z ca)) (hb : PW X (.BoolOp .Or (b :: rest) pos) (tC G Z cb)) : PW X (.BoolOp .Or (a :: b :: rest) pos) (tC G Z (cOr ca cb)) :=
  ⟨fun wh pins s σ H Q I h => (L2.pw_or ha hb).run wh pins s σ H Q I (cond_read (t := fun _ _ _ => True) h fun t H1 z => by
    obtain ⟨m1, h1, s1, R1, S1, q1⟩ := z
    cases t with
    | true => exact q1 m1 H1 _ (.refl m1) R1 rfl
    | false => exact ⟨m1, h1, s1, R1, S1, q1⟩)⟩
theorem pmw_and1 {a : Expr} {ca : CM} (ha : PT X a (tC G Z ca)) : PW X (.BoolOp .And [a] pos) (tC G Z ca) := L2.pw_and1 ha
theorem pmw_or1 {a : Expr} {ca : CM} (ha : PT X a (tC G Z ca)) : PW X (.BoolOp .Or [a] pos) (tC G Z ca) := L2.pw_or1 ha
/-! ### and, or, not, if as values -/
theorem condv_read {c : EM} {k : Sl → W → AH → Res W} {σ : St} {H : Hp} {Q : VK} (h : tE G Z (fun s h => (c s h).bind (k s)) σ H Q)
    {Q' : VK} (f : ∀ w v H1 m1 h1 s, VR G m1 w v → Rel G m1 h1 H1 → SlR G m1 s σ → Sat G m1 (fun c d H => Z c d σ H) (VR G) (k s w h1) Q → Q' v H1) : tE G Z c σ H Q' := by
  obtain ⟨m, h, s, R, S, q⟩ := h
  refine ⟨m, h, s, R, S, (Sat.bind (R := VR G) q).imp fun x H1 z => ?_⟩
  obtain ⟨m1, a, h1, l1, R1, ra, q1⟩ := z
  exact f a x H1 m1 h1 s ra R1 (S.mono l1) q1
theorem pm_and {a b : Expr} {rest : List Expr} {ga gb : EM} (ha : PE X a (tE G Z ga)) (hb : PE X (.BoolOp .And (b :: rest) pos) (tE G Z gb)) : PE X (.BoolOp .And (a :: b :: rest) pos) (tE G Z (eAnd ga gb)) :=
  pe_of (L2.pe_and ha hb) fun σ H Q h => condv_read h fun w v H1 m1 h1 s r R1 S1 q1 => by
    cases w with
    | bl k =>
      refine ⟨k, r, ?_⟩
      cases k with
      | true => exact ⟨m1, h1, s, R1, S1, q1⟩
      | false => exact q1 m1 H1 _ (.refl m1) R1 rfl
    | _ => exact q1.elim
theorem pm_or {a b : Expr} {rest : List Expr} {ga gb : EM} (ha : PE X a (tE G Z ga)) (hb : PE X (.BoolOp .Or (b :: rest) pos) (tE G Z gb)) : PE X (.BoolOp .Or (a :: b :: rest) pos) (tE G Z (eOr ga gb)) :=
  pe_of (L2.pe_or ha hb) fun σ H Q h => condv_read h fun w v H1 m1 h1 s r R1 S1 q1 => by
    cases w with
    | bl k =>
      refine ⟨k, r, ?_⟩
      cases k with
      | false => exact ⟨m1, h1, s, R1, S1, q1⟩
      | true => exact q1 m1 H1 _ (.refl m1) R1 rfl
    | _ => exact q1.elim
theorem pm_one {a : Expr} {op : BoolOp} {ga : EM} (ha : PE X a (tE G Z ga)) : PE X (.BoolOp op [a] pos) (tE G Z ga) := L2.pe_one ha
theorem pm_not {a : Expr} {ga : EM} (ha : PE X a (tE G Z ga)) : PE X (.UnaryOp .Not a pos) (tE G Z (eNot ga)) :=
  pe_of (L2.pe_not ha) fun σ H Q h => condv_read h fun w v H1 m1 h1 s r R1 S1 q1 => by
    cases w with
    | bl k => exact ⟨k, r, q1 m1 H1 _ (.refl m1) R1 rfl⟩
    | _ => exact q1.elim
theorem pm_if {c a b : Expr} {gc : CM} {ga gb : EM} (hc : PT X c (tC G Z gc)) (ha : PE X a (tE G Z ga)) (hb : PE X b (tE G Z gb)) : PE X (.IfExp c a b pos) (tE G Z (eIf gc ga gb)) :=
  pe_of (L2.pe_ifExp hc ha hb) fun σ H Q h => by
    obtain ⟨m, h, s, R, S, q⟩ := h
    refine ⟨m, h, s, R, S, (Sat.bind (R := RB) q).imp fun x H1 z => ?_⟩
    obtain ⟨m1, t, h1, l1, R1, ra, q1⟩ := z
    cases ra
    cases x with
    | true => exact ⟨m1, h1, s, R1, S.mono l1, q1⟩
    | false => exact ⟨m1, h1, s, R1, S.mono l1, q1⟩

/-! ### arguments, displays -/
theorem pma_nil : PA X [] (tA G Z (evs [])) := pa_of L2.pa_nil fun σ H Q h => by
  obtain ⟨m, h, s, R, S, q⟩ := h
  exact q m H [] (.refl m) R .nil
theorem pma_cons {e : Expr} {es : List Expr} {g : EM} {gs : List EM} (ha : PE X e (tE G Z g)) (hr : PA X es (tA G Z (evs gs))) (hs : starEach (e :: es) X.env = (false, eval e X.env) :: starEach es X.env := by rfl) : PA X (e :: es) (tA G Z (evs (g :: gs))) :=
  pa_of (L2.pa_cons ha hr hs) fun σ H Q h => by
    obtain ⟨m, h, s, R, S, q⟩ := h
    refine ⟨m, h, s, R, S, (Sat.bind (R := VR G) q).imp fun x H1 z => ?_⟩
    obtain ⟨m1, a, h1, l1, R1, ra, q1⟩ := z
    refine ⟨m1, h1, s, R1, S.mono l1, (Sat.bind (R := VRs G) q1).imp fun xs H2 z => ?_⟩
    obtain ⟨m2, as, h2, l2, R2, rs, q2⟩ := z
    exact q2 m2 H2 _ (.refl m2) R2 (.cons (ra.mono l2) rs)
/-- a new object that nobody has seen -/
theorem new_sat {m : Mp} {h : AH} {H : Hp} {Q : VK} {c : Cell} {p : Addr} {o : HO} {E : XK} (R : Rel G m h H) (np : H p = none) (r : CR G (m.snoc p) p c o) (q : Sat G m E (VR G) (ofO (some (W.ref h.n, h.new c))) Q) : Q (.ref p) (upd H p o) :=
  q (m.snoc p) _ _ (m.le_snoc p) (R.new np r) ⟨p, by
    show (m.as ++ [p])[h.n]? = some p
    rw [← R.len]
    exact List.getElem?_concat_length, rfl⟩
theorem line_ok {n : Nat} (h : Nat.ble n 1000000 = true) : n ≤ sizeLine := Nat.le_trans (Nat.le_of_ble_eq_true h) (by rw [sizeLine_eq]; decide)
theorem opN_read {f : OpN} {gs : List EM} {σ : St} {H : Hp} {Q : VK} (h : tE G Z (eOpN f gs) σ H Q) : tA G Z (evs gs) σ H fun xs H1 => rN G f xs H1 Q := by
  obtain ⟨m, h, s, R, S, q⟩ := h
  refine ⟨m, h, s, R, S, (Sat.bind (R := VRs G) q).imp fun x H1 z => ?_⟩
  obtain ⟨m1, as, h1, l1, R1, ra, q1⟩ := z
  exact ⟨m1, h1, as, R1, ra, q1.ofO⟩
theorem tA_imp {g : AM} {σ : St} {H : Hp} {Q Q' : List V → Hp → Prop} (h : tA G Z g σ H Q) (f : ∀ xs H', Q xs H' → Q' xs H') : tA G Z g σ H Q' := by
  obtain ⟨m, h, s, R, S, q⟩ := h
  exact ⟨m, h, s, R, S, q.imp f⟩
theorem tE_imp {g : EM} {σ : St} {H : Hp} {Q Q' : VK} (h : tE G Z g σ H Q) (f : ∀ xs H', Q xs H' → Q' xs H') : tE G Z g σ H Q' := by
  obtain ⟨m, h, s, R, S, q⟩ := h
  exact ⟨m, h, s, R, S, q.imp f⟩
theorem vrs_len {m : Mp} {as : List W} {xs : List V} (r : VRs G m as xs) : as.length = xs.length := Paired.length r
theorem pm_tup {es : List Expr} {k : Nat} {gs : List EM} (h : PA X es (tA G Z (evs gs))) : PE X (.Tuple es k pos) (tE G Z (eOpN mkTup gs)) :=
  pe_of (L2.pe_tup h) fun σ H Q h => tA_imp (opN_read h) fun xs H1 z => by
    obtain ⟨m, h, as, R, ra, q⟩ := z
    unfold mkTup at q
    cases e : Nat.ble as.length 1000000 with
    | false =>
      rw [e] at q
      exact q.elim
    | true =>
      rw [e] at q
      refine ⟨by rw [← vrs_len ra]; exact line_ok e, fun p np => new_sat (c := .tup as) R np ⟨xs, ra.mono (m.le_snoc p), rfl⟩ q⟩
theorem pm_lst {es : List Expr} {gs : List EM} (h : PA X es (tA G Z (evs gs))) : PE X (.List es pos) (tE G Z (eOpN mkLst gs)) :=
  pe_of (L2.pe_lst h) fun σ H Q h => tA_imp (opN_read h) fun xs H1 z => by
    obtain ⟨m, h, as, R, ra, q⟩ := z
    unfold mkLst at q
    cases e : Nat.ble as.length 1000000 with
    | false =>
      rw [e] at q
      exact q.elim
    | true =>
      rw [e] at q
      refine ⟨by rw [← vrs_len ra]; exact line_ok e, fun p np => new_sat (c := .lst as) R np ⟨xs, ra.mono (m.le_snoc p), rfl⟩ q⟩
/-! ### calls of the program's defs -/
/-- a def whose calls mean fn -/
structure FnG (G : Gx) (P : Program) (w : World) (K : PySem.W.Frag) (mg : Str → Option Value) (k : Nat) (f : Addr) (fd : FuncData) (ps : List Str) (fn : Fn) : Prop where
  len : ∀ ws h, fn ws h ≠ .no → ws.length = ps.length
  run : ∀ (base : Heap) (A : Around) (outer : List Env) (s : Shared) (H : Hp) (args : Args) (us : List Value) (vs : List V) (Q : VK) (E : XK) (m : Mp) (h : AH) (ws : List W), A.guards = some [] → Room k A → L2.Env0 P w K mg base A outer s H → BindsTo s fd args (ps.zip us) → Vals vs us →
    Rel G m h H → VRs G m ws vs → Sat G m E (VR G) (fn ws h) Q → codeAny (model P w) A (.call (.ref f) args) (L2.CR (L2.CX P w) outer P w H s Q E) s
theorem FnG.mono {P : Program} {w : World} {K : PySem.W.Frag} {mg : Str → Option Value} {j k : Nat} {f : Addr} {fd : FuncData} {ps : List Str} {fn : Fn} (F : FnG G P w K mg j f fd ps fn) (h : j ≤ k) : FnG G P w K mg k f fd ps fn :=
  ⟨F.len, fun base A outer s H args us vs Q E m h' ws hg hr => F.run base A outer s H args us vs Q E m h' ws hg (hr.mono h)⟩
theorem Sat.ne {α β : Type} {m : Mp} {E : XK} {R : Mp → α → β → Prop} {r : Res α} {Q : β → Hp → Prop} (h : Sat G m E R r Q) : r ≠ .no := fun e => by
  rw [e] at h
  exact h
def spF (G : Gx) (fn : Fn) : L2.Sp := fun vs H Q E => ∃ m h ws, Rel G m h H ∧ VRs G m ws vs ∧ Sat G m E (VR G) (fn ws h) Q
theorem call_read {fn : Fn} {gs : List EM} {σ : St} {H : Hp} {Q : VK} (h : tE G Z (eCall fn gs) σ H Q) : tA G Z (evs gs) σ H fun xs H1 => spF G fn xs H1 Q fun c d H => Z c d σ H := by
  obtain ⟨m, h, s, R, S, q⟩ := h
  refine ⟨m, h, s, R, S, (Sat.bind (R := VRs G) q).imp fun x H1 z => ?_⟩
  obtain ⟨m1, as, h1, l1, R1, ra, q1⟩ := z
  exact ⟨m1, h1, as, R1, ra, q1⟩
variable {fn : Fn} {k : Nat} {f : Addr} {fd : FuncData} {ps ks : List Str} {x : Str} {p : Pos}
theorem run_fg {pins : List (Addr × Obj)} {σ : St} {H : Hp} {s : Shared} {Q : VK} {args : Args} {us : List Value} {vs : List V} {m : Mp} {h : AH} {ws : List W} (F : FnG G X.prog X.w X.K X.mg k f fd ps fn) (hgd : X.A.guards = some []) (hr : Room k X.A) (tk : Takes X Z)
    (I : Inv X pins σ H s) (hb : us.length = ps.length → BindsTo s fd args (ps.zip us)) (r : Vals vs us) (R : Rel G m h H) (rw : VRs G m ws vs) (q : Sat G m (fun c d H => Z c d σ H) (VR G) (fn ws h) Q) :
    codeAny (model X.prog X.w) X.A (.call (.ref f) args) (fun r s' => match r with | .ok (.ret u) => L2.EP X pins σ Q u s' | .ok _ => False | .error e => X.xe e s') s := by
  have hl : us.length = ps.length := by
    rw [← r.length, ← vrs_len rw]
    exact F.len _ _ q.ne
  refine codeAny_mono (F.run X.base X.A X.stack s H args us vs Q _ m h ws hgd hr I.env0 (hb hl) r R rw q) fun r s' hq => ?_
  cases r with
  | error e => exact L2.passAt tk σ pins H s e s' I hq
  | ok fl =>
    cases fl with
    | ret u => exact I.after hq
    | next => exact False.elim hq
    | brk => exact False.elim hq
    | cont => exact False.elim hq
theorem ret_call {M : Model} {A : Around} {Q : Value → Shared → Prop} {E : Value → Shared → Prop} {s : Shared} {f : Value} {us : List Value} {kw : List (Str × Value)}
    (h : codeAny M A (.call f ⟨us, kw⟩) (fun r s' => match r with | .ok (.ret u) => Q u s' | .ok _ => False | .error e => E e s') s) : wpAny M A (call f us kw) Q E s :=
  wpAny_call (codeAny_mono h fun r s' hq => by
    cases r with
    | error e => exact hq
    | ok fl =>
      cases fl with
      | ret u => exact hq
      | next => exact False.elim hq
      | brk => exact False.elim hq
      | cont => exact False.elim hq)
theorem pm_call {e : Expr} {es : List Expr} {gs : List EM} (F : FnG G X.prog X.w X.K X.mg k f fd ps fn) (hgd : X.A.guards = some []) (hr : Room k X.A) (hg : Gl X x) (hm : X.mg x = some (.ref f)) (hk : PySem.W.keepIn X.K (.ref f) = true) (hb : Binds X.K fd ps []) (tk : Takes X Z)
    (ha : PA X (e :: es) (tA G Z (evs gs))) (hdb : (x == ("__debug__" : Str)) = false := by decide) (he : starEach (e :: es) X.env = (false, eval e X.env) :: starEach es X.env := by rfl) (hpl : (backTo pos (starEach es X.env)).any (·.1) = false := by rfl) :
    PE X (.Call (.Name x p) (e :: es) [] pos) (tE G Z (eCall fn gs)) := by
  refine ⟨fun pins s σ H Q I h => ?_⟩
  refine wpAny_Call_Name_kw (L2.ld_glob I hg hm ?_ hdb)
  refine PySem.W.callWith_K (h₀ := X.base) I.ok.mod.kin hk (L2.thn (ha.run pos pins s σ H _ I (call_read h)) fun us s1 ⟨vs, H1, I1, r, m, h1, ws, R, rw, q⟩ => ⟨I1.kIn, ?_⟩) he hpl
  refine ret_call (run_fg F hgd hr tk I1 (fun hl => ?_) r R rw q)
  have b := hb s1 us I1.kIn (by rw [List.append_nil]; exact hl)
  rw [List.append_nil] at b
  exact b
theorem pm_call0 (F : FnG G X.prog X.w X.K X.mg k f fd ps fn) (hgd : X.A.guards = some []) (hr : Room k X.A) (hg : Gl X x) (hm : X.mg x = some (.ref f)) (hk : PySem.W.keepIn X.K (.ref f) = true) (hb : Binds X.K fd ps []) (tk : Takes X Z)
    (hdb : (x == ("__debug__" : Str)) = false := by decide) : PE X (.Call (.Name x p) [] [] pos) (tE G Z (eCall fn [])) := by
  refine ⟨fun pins s σ H Q I h => ?_⟩
  obtain ⟨m, h, sl, R, S, q⟩ := h
  refine wpAny_Call_Name_kw (L2.ld_glob I hg hm ?_ hdb)
  refine PySem.W.callWith_K0 I.kIn hk (ret_call (run_fg F hgd hr tk I (us := []) (vs := []) (ws := []) (fun hl => ?_) .nil R .nil q))
  have b := hb s [] I.kIn hl
  exact b
/-- f(e, .., k = v, ..) -/
theorem pm_callK {g : List Value → List Value → List Value} {gV : List V → List V → List V} {gW : List W → List W → List W} {e : Expr} {es : List Expr} {kws : List Keyword} {gs gk : List EM} (F : FnG G X.prog X.w X.K X.mg k f fd ps fn) (hgd : X.A.guards = some []) (hr : Room k X.A) (hg : Gl X x) (hm : X.mg x = some (.ref f)) (hk : PySem.W.keepIn X.K (.ref f) = true) (hb : L2.KBinds X.K fd ps ks g gV) (tk : Takes X Z)
    (hgW : ∀ {m : Mp} {as bs : List W} {vs zs : List V}, VRs G m as vs → VRs G m bs zs → VRs G m (gW as bs) (gV vs zs))
    (ha : PA X (e :: es) (tA G Z (evs gs))) (hkw : L2.PK X kws (tA G Z (evs gk))) (hall : (backToKw pos (keywordEach kws X.env)).all (·.1.isSome) = true := by rfl) (hks : (backToKw pos (keywordEach kws X.env)).filterMap (·.1) = ks := by rfl)
    (hdb : (x == ("__debug__" : Str)) = false := by decide) (he : starEach (e :: es) X.env = (false, eval e X.env) :: starEach es X.env := by rfl)
    (hpl : ((backTo pos (starEach (e :: es) X.env)).any (·.1) || (backToKw pos (keywordEach kws X.env)).any (·.1.isNone)) = false := by rfl) :
    PE X (.Call (.Name x p) (e :: es) kws pos) (tE G Z (eCallK fn gW gs gk)) := by
  refine ⟨fun pins s σ H Q I h => ?_⟩
  obtain ⟨m, h, sl, R, S, q⟩ := h
  refine wpAny_Call_Name_kw (L2.ld_glob I hg hm ?_ hdb)
  refine PySem.W.callWith_KW (h₀ := X.base) I.ok.mod.kin hk hall (L2.thn (ha.run pos pins s σ H _ I ⟨m, h, sl, R, S, (Sat.bind (R := VRs G) q)⟩) fun us s1 ⟨vs, H1, I1, r, m1, as, h1, l1, R1, ra, q1⟩ => ?_) hpl he
  refine L2.thn (hkw.run pos pins s1 σ H1 _ I1 ⟨m1, h1, sl, R1, S.mono l1, (Sat.bind (R := VRs G) q1)⟩) fun us2 s2 ⟨zs, H2, I2, rz, m2, bs, h2, l2, R2, rb, q2⟩ => ⟨I2.kIn, ?_⟩
  rw [hks]
  exact ret_call (run_fg F hgd hr tk I2 (fun hl => hb.to s2 us us2 I2.kIn hl) (hb.rel r rz) R2 (hgW (ra.mono l2) rb) q2)
theorem pmk_nil : L2.PK X [] (tA G Z (evs [])) := ⟨fun pos pins s σ H Q I h => (L2.pk_nil (X := X)).run pos pins s σ H Q I (by
  obtain ⟨m, h, s, R, S, q⟩ := h
  exact q m H [] (.refl m) R .nil)⟩
theorem pmk_cons {nm : Option Str} {kpos : Pos} {e : Expr} {kws : List Keyword} {g : EM} {gs : List EM} (ha : PE X e (tE G Z g)) (hr : L2.PK X kws (tA G Z (evs gs))) : L2.PK X (⟨nm, e, kpos⟩ :: kws) (tA G Z (evs (g :: gs))) :=
  ⟨fun pos pins s σ H Q I h => (L2.pk_cons ha hr).run pos pins s σ H Q I (by
    obtain ⟨m, h, s, R, S, q⟩ := h
    refine ⟨m, h, s, R, S, (Sat.bind (R := VR G) q).imp fun x H1 z => ?_⟩
    obtain ⟨m1, a, h1, l1, R1, ra, q1⟩ := z
    refine ⟨m1, h1, s, R1, S.mono l1, (Sat.bind (R := VRs G) q1).imp fun xs H2 z => ?_⟩
    obtain ⟨m2, as, h2, l2, R2, rs, q2⟩ := z
    exact q2 m2 H2 _ (.refl m2) R2 (.cons (ra.mono l2) rs))⟩
end
end Pm
/-! PmStm: the rules of statements, targets, loops, comprehensions, defs. -/
namespace Pm
open PySem PySem.Spec
open PyProof.Rows (envOfC)
open L2 (V Hp HO Cx Inv PE PT PA PS PSs PW PG PGs PI TE TT TA TS TG TGs TI St VK XK WX Ends RelV Vals upd upd_same upd_ne Takes R2 OpR CallR tOp tVar Vis Gl FnOk Room Binds It)
section
variable {X : Cx} {G : Gx} {Z : WX} {pos : Pos}

/-! ### blocks, small statements -/
theorem pms_nil : PSs X [] (tS G Z sNx) := pss_of L2.pss_nil fun D σ H h => by
  obtain ⟨m, h, s, R, S, q⟩ := h
  exact q m σ H (.refl m) R S
theorem pms_cons {st : Stmt} {rest : List Stmt} {a b : SM} (h1 : PS X st (tS G Z a)) (h2 : PSs X rest (tS G Z b)) : PSs X (st :: rest) (tS G Z (sSeq a b)) := pss_of (L2.pss_cons h1 h2) fun D σ H h => by
  obtain ⟨m, h, s, R, S, q⟩ := h
  refine ⟨m, h, s, R, S, ?_⟩
  unfold sSeq at q
  cases e : a s h with
  | nx s1 h1 =>
    rw [e] at q
    exact fun m' σ' H' x R' S' => ⟨m', h1, s1, R', S', q.mono x⟩
  | _ =>
    rw [e] at q
    exact q
theorem pms_one {st : Stmt} {a : SM} (h1 : PS X st (tS G Z a)) : PSs X [st] (tS G Z a) := L2.pss_one h1
theorem pms_no {st : Stmt} : PS X st (tS G Z sNo) := ⟨fun _ _ _ _ _ _ h => by
  obtain ⟨m, h, s, R, S, q⟩ := h
  exact q.elim⟩
theorem pmss_no {st : List Stmt} : PSs X st (tS G Z sNo) := ⟨fun _ _ _ _ _ _ h => by
  obtain ⟨m, h, s, R, S, q⟩ := h
  exact q.elim⟩
theorem pms_pass : PS X (.Pass pos) (tS G Z sNx) := ps_of L2.ps_pass fun D σ H h => by
  obtain ⟨m, h, s, R, S, q⟩ := h
  exact q m σ H (.refl m) R S
theorem pms_break : PS X (.Break pos) (tS G Z sBk) := ps_of L2.ps_break fun D σ H h => by
  obtain ⟨m, h, s, R, S, q⟩ := h
  exact q m σ H (.refl m) R S
theorem pms_continue : PS X (.Continue pos) (tS G Z sCt) := ps_of L2.ps_continue fun D σ H h => by
  obtain ⟨m, h, s, R, S, q⟩ := h
  exact q m σ H (.refl m) R S
/-- a value, then a statement's rest -/
theorem sr_read {g : EM} {k : Sl → W → AH → SR} {D : Ends} {σ : St} {H : Hp} (h : tS G Z (fun s h => (g s h).toSR s (k s)) D σ H)
    {Q : VK} (f : ∀ w v H1 m1 h1 s, VR G m1 w v → Rel G m1 h1 H1 → SlR G m1 s σ → SatS G m1 Z D (k s w h1) → Q v H1) : tE G Z g σ H Q := by
  obtain ⟨m, h, s, R, S, q⟩ := h
  refine ⟨m, h, s, R, S, (Sat.toSR (R := VR G) S q).imp fun v H1 z => ?_⟩
  obtain ⟨m1, a, h1, l1, R1, ra, q1⟩ := z
  exact f a v H1 m1 h1 s ra R1 (S.mono l1) q1
theorem pms_ret {e : Expr} {g : EM} (he : PE X e (tE G Z g)) : PS X (.Return (some e) pos) (tS G Z (sRet g)) := ps_of (L2.ps_ret he) fun D σ H h =>
  sr_read h fun w v H1 m1 h1 s r R1 S1 q => q m1 H1 v (.refl m1) R1 r
theorem pms_retN : PS X (.Return none pos) (tS G Z sRetN) := ps_of L2.ps_retN fun D σ H h => by
  obtain ⟨m, h, s, R, S, q⟩ := h
  exact q m H _ (.refl m) R rfl
theorem pms_expr {e : Expr} {g : EM} (he : PE X e (tE G Z g)) (hs : swapsWith e none pos.line X.env = pure false := by rfl) : PS X (.Expr e pos) (tS G Z (sDrop g)) := ps_of (L2.ps_expr he hs) fun D σ H h =>
  sr_read h fun w v H1 m1 h1 s r R1 S1 q => q m1 σ H1 (.refl m1) R1 S1
theorem pms_set {i : Nat} {x : Str} {e : Expr} {g : EM} {pos' : Pos} (hN : X.N.Nodup) (he : PE X e (tE G Z g)) (hi : X.N[i]? = some x := by rfl) (hx : L2.Loc X.env.scope x := by first | exact Or.inl rfl | exact Or.inr rfl) (hs : swapsWith e (some (.Name x pos')) pos.line X.env = pure false := by rfl)
    (hf : X.fn x = true ∨ X.env.scope.names.lookup x = some .local := by first | exact .inl rfl | exact .inr rfl) : PS X (.Assign [.Name x pos'] e pos) (tS G Z (sSet i g)) := ps_of (L2.ps_set hN hi hx he hs hf) fun D σ H h =>
  sr_read h fun w v H1 m1 h1 s r R1 S1 q => q m1 _ H1 (.refl m1) R1 (SlR.put (a := some w) (v := some v) ⟨v, rfl, r⟩ i S1)
theorem pms_if {c : Expr} {a b : List Stmt} {gc : CM} {ga gb : SM} (hc : PT X c (tC G Z gc)) (ha : PSs X a (tS G Z ga)) (hb : PSs X b (tS G Z gb)) : PS X (.If c a b pos) (tS G Z (sIf gc ga gb)) := ps_of (L2.ps_if hc ha hb) fun D σ H h => by
  obtain ⟨m, h, s, R, S, q⟩ := h
  refine ⟨m, h, s, R, S, (Sat.toSR (R := RB) S q).imp fun x H1 z => ?_⟩
  obtain ⟨m1, t, h1, l1, R1, ra, q1⟩ := z
  cases ra
  cases x with
  | true => exact ⟨m1, h1, s, R1, S.mono l1, q1⟩
  | false => exact ⟨m1, h1, s, R1, S.mono l1, q1⟩
/-- o[i] = e -/
def rS (G : Gx) (f : W → W → W → AH → Option AH) : L2.TSet := fun o i v H Q => ∃ m h a b c h', Rel G m h H ∧ VR G m a o ∧ VR G m b i ∧ VR G m c v ∧ f a b c h = some h' ∧ ∀ m' H', m.Le m' → Rel G m' h' H' → Q H'
theorem pms_sub {o i e : Expr} {f : W → W → W → AH → Option AH} {go gi ge : EM} {p2 : Pos} (hf : L2.PSet X (rS G f)) (he : PE X e (tE G Z ge)) (ho : PE X o (tE G Z go)) (hi : PE X i (tE G Z gi))
    (ha : ∀ v, assign (.Subscript o i p2) X.env v = (do
      let ov ← holding [v] (eval o X.env)
      let iv ← holding [v, ov] (eval i X.env)
      standAt p2
      holding [v, ov, iv] (setItem ov iv v)
      release [v, ov, iv] []) := by intro _; rfl)
    (hs : swapsWithSole [.Subscript o i p2] e pos.line X.env = pure false := by rfl) (hw : swappedStores [.Subscript o i p2] e X.env = pure none := by rfl)
    (h1 : (assignEach [.Subscript o i p2] X.env).map (·.2) = [assign (.Subscript o i p2) X.env] := by rfl) : PS X (.Assign [.Subscript o i p2] e pos) (tS G Z (sSub f ge go gi)) := ps_of (L2.ps_asg he (L2.pg_sub ho hi hf ha) hs hw h1) fun D σ H h =>
  sr_read h fun w v H1 m1 h1 s r R1 S1 q => by
    refine ⟨m1, h1, s, R1, S1, (Sat.toSR (R := VR G) S1 q).imp fun x H2 z => ?_⟩
    obtain ⟨m2, a, h2, l2, R2, ra, q2⟩ := z
    refine ⟨m2, h2, s, R2, S1.mono l2, (Sat.toSR (R := VR G) (S1.mono l2) q2).imp fun y H3 z => ?_⟩
    obtain ⟨m3, b, h3, l3, R3, rb, q3⟩ := z
    cases e4 : f a b w h3 with
    | none =>
      rw [e4] at q3
      exact q3.elim
    | some h4 =>
      rw [e4] at q3
      exact ⟨m3, h3, a, b, w, h4, R3, ra.mono l3, rb, r.mono (l2.trans l3), e4, fun m' H' x R' => q3 m' σ H' x R' (S1.mono ((l2.trans l3).trans x))⟩
/-- x op= e -/
def rA (G : Gx) (f : Op2) : L2.TIp := fun x y H Q => ∃ m h a b, Rel G m h H ∧ VR G m a x ∧ VR G m b y ∧ Sat G m (fun _ _ _ => False) (VR G) (ofO (f a b h)) Q
theorem pms_aug {i : Nat} {x : Str} {e : Expr} {op : Operator} {f : Op2} {g : EM} {pos' : Pos} (hN : X.N.Nodup) (ho : L2.PIp X op (rA G f)) (he : PE X e (tE G Z g)) (hi : X.N[i]? = some x := by rfl) (hx : L2.Loc X.env.scope x := by first | exact Or.inl rfl | exact Or.inr rfl)
    (hf : X.fn x = true ∨ X.env.scope.names.lookup x = some .local := by first | exact .inl rfl | exact .inr rfl) : PS X (.AugAssign (.Name x pos') op e pos) (tS G Z (sAug f i g)) := ps_of (L2.ps_aug hN hi hx he ho hf) fun D σ H h => by
  obtain ⟨m, h, s, R, S, q⟩ := h
  unfold sAug at q
  cases e0 : sget s i with
  | none =>
    rw [e0] at q
    exact q.elim
  | some w =>
    rw [e0] at q
    obtain ⟨v, e1, r⟩ := S.get e0
    refine ⟨v, e1, m, h, s, R, S, (Sat.toSR (R := VR G) S q).imp fun y H1 z => ?_⟩
    obtain ⟨m1, b, h1, l1, R1, rb, q1⟩ := z
    refine ⟨m1, h1, w, b, R1, r.mono l1, rb, ?_⟩
    cases e2 : f w b h1 with
    | none =>
      rw [e2] at q1
      exact q1.elim
    | some p =>
      rw [e2] at q1
      exact fun m' H' u x R' ru => q1 m' _ H' x R' (SlR.put (a := some p.1) (v := some u) ⟨u, rfl, ru⟩ i (S.mono (l1.trans x)))

/-! ### targets -/
def gNs : List Nat → TGs
  | [] => L2.gNil
  | i :: is => L2.gCons (L2.gName i) (gNs is)
def gT (K : PySem.W.Frag) : Tg → TG
  | .nm i => L2.gName i
  | .tp is => L2.gTup K is.length (gNs is)
def Tg.slots : Tg → List Nat
  | .nm i => [i]
  | .tp is => is
theorem pmg_nm {i : Nat} {x : Str} (hN : X.N.Nodup) (hi : X.N[i]? = some x := by rfl) (hx : L2.Loc X.env.scope x := by first | exact Or.inl rfl | exact Or.inr rfl)
    (hf : X.fn x = true ∨ X.env.scope.names.lookup x = some .local := by first | exact .inl rfl | exact .inr rfl) : PG X (.Name x pos) (gT X.K (.nm i)) := L2.pg_name hN hi hx hf
theorem pmgs_nil : PGs X [] (gNs []) := L2.pgs_nil
theorem pmgs_cons {i : Nat} {x : Str} {es : List Expr} {is : List Nat} (hN : X.N.Nodup) (h2 : PGs X es (gNs is)) (hi : X.N[i]? = some x := by rfl) (hx : L2.Loc X.env.scope x := by first | exact Or.inl rfl | exact Or.inr rfl)
    (hf : X.fn x = true ∨ X.env.scope.names.lookup x = some .local := by first | exact .inl rfl | exact .inr rfl)
    (hs : (assignEach (.Name x pos :: es) X.env).map (·.2) = assign (.Name x pos) X.env :: (assignEach es X.env).map (·.2) := by rfl) : PGs X (.Name x pos :: es) (gNs (i :: is)) := L2.pgs_cons (L2.pg_name hN hi hx hf) h2 hs
theorem pmg_tp {es : List Expr} {k : Nat} {is : List Nat} (hc : X.calm = true) (h : PGs X es (gNs is)) (hn : (assignEach es X.env).length = is.length := by rfl) (hst : (assignEach es X.env).findIdx? (·.1) = none := by rfl) : PG X (.Tuple es k pos) (gT X.K (.tp is)) := L2.pg_tup hc h hn hst
theorem wipe_in {σ : St} {i : Nat} : ∀ {vs : List Nat}, i ∈ vs → i < σ.length → (L2.wipe σ vs)[i]? = some none
  | [], h, _ => by simp at h
  | v :: vs, h, hl => by
    unfold L2.wipe
    by_cases e : v = i
    · subst e
      rw [List.getElem?_set_self (by rw [L2.wipe_length]; exact hl)]
    · rw [List.getElem?_set_ne e]
      refine wipe_in ?_ hl
      rcases List.mem_cons.mp h with z | z
      · exact absurd z.symm e
      · exact z
theorem wipe_eq {σ τ : St} {vs : List Nat} (hl : σ.length = τ.length) (h : ∀ i, i ∉ vs → σ[i]? = τ[i]?) : L2.wipe σ vs = L2.wipe τ vs := by
  apply List.ext_getElem?
  intro i
  by_cases hi : i ∈ vs
  · by_cases lt : i < σ.length
    · rw [wipe_in hi lt, wipe_in hi (hl ▸ lt)]
    · rw [List.getElem?_eq_none (by rw [L2.wipe_length]; omega), List.getElem?_eq_none (by rw [L2.wipe_length]; omega)]
  · rw [L2.wipe_out hi, L2.wipe_out hi]
    exact h i hi
theorem wipe_set {σ : St} {vs : List Nat} {i : Nat} {x : Option V} (hi : i ∈ vs) : L2.wipe (σ.set i x) vs = L2.wipe σ vs := wipe_eq (by simp) fun j hj => by
  rw [List.getElem?_set_ne]
  intro e
  exact hj (e ▸ hi)
theorem wipe_wipe {σ : St} {vs : List Nat} : L2.wipe (L2.wipe σ vs) vs = L2.wipe σ vs := wipe_eq (L2.wipe_length _ _) fun j hj => L2.wipe_out hj
theorem gNs_read {m : Mp} {H : Hp} : ∀ {is : List Nat} {ws : List W} {vs : List V} {s s1 : Sl} {σ : St} {Q : St → Hp → Prop}, VRs G m ws vs → sputs s is ws = some s1 → SlR G m s σ →
    (∀ σ1, SlR G m s1 σ1 → (∀ own, (∀ i ∈ is, i ∈ own) → L2.wipe σ1 own = L2.wipe σ own) → Q σ1 H) → gNs is vs σ H Q
  | [], _, _, s, s1, σ, Q, .nil, e, S, q => by
    have e' : s = s1 := by simpa [sputs] using e
    subst e'
    exact ⟨rfl, q σ S fun _ _ => rfl⟩
  | i :: is, w :: ws, v :: vs, s, s1, σ, Q, .cons r rs, e, S, q => by
    have e' : sputs (sput s i (some w)) is ws = some s1 := by simpa [sputs] using e
    refine ⟨_, _, rfl, gNs_read rs e' (SlR.put (a := some w) (v := some v) ⟨v, rfl, r⟩ i S) fun σ1 S1 f => q σ1 S1 fun own ho => ?_⟩
    rw [f own fun j hj => ho j (List.mem_cons_of_mem _ hj)]
    exact wipe_set (ho i List.mem_cons_self)
  | [], _, _, _, _, _, _, .cons _ _, e, _, _ => by simp [sputs] at e
  | _ :: _, _, _, _, _, _, _, .nil, e, _, _ => by simp [sputs] at e
theorem sputs_len : ∀ {is : List Nat} {ws : List W} {s s1 : Sl}, sputs s is ws = some s1 → ws.length = is.length
  | [], [], _, _, _ => rfl
  | i :: is, w :: ws, s, s1, e => by
    have e' : sputs (sput s i (some w)) is ws = some s1 := by simpa [sputs] using e
    rw [List.length_cons, List.length_cons, sputs_len e']
  | [], _ :: _, _, _, e => by simp [sputs] at e
  | _ :: _, [], _, _, e => by simp [sputs] at e
theorem titems_of {m : Mp} {h : AH} {H : Hp} (R : Rel G m h H) {l : Nat} {a : Addr} {ws : List W} (e : m.as[l]? = some a) (q : titems h l = some ws) : ∃ vs, VRs G m ws vs ∧ H a = some (.tup vs) := by
  unfold titems at q
  cases e1 : h.get l with
  | none =>
    rw [e1] at q
    cases q
  | some c =>
    rw [e1] at q
    obtain ⟨o, e2, e3⟩ := R.see e e1
    cases c with
    | tup xs =>
      cases q
      obtain ⟨vs, r, e4⟩ := e3
      exact ⟨vs, r, e4 ▸ e2⟩
    | _ => cases q
theorem litems_of {m : Mp} {h : AH} {H : Hp} (K : PySem.W.Frag) (R : Rel G m h H) {l : Nat} {a : Addr} {ws : List W} (e : m.as[l]? = some a) (q : litems h l = some ws) : ∃ vs, VRs G m ws vs ∧ L2.SqL K H a vs := by
  unfold litems at q
  cases e1 : h.get l with
  | none =>
    rw [e1] at q
    cases q
  | some c =>
    rw [e1] at q
    obtain ⟨o, e2, e3⟩ := R.see e e1
    cases c with
    | lst xs =>
      cases q
      obtain ⟨vs, r, e4⟩ := e3
      exact ⟨vs, r, .inl (.inl (e4 ▸ e2))⟩
    | _ => cases q
theorem gT_read {K : PySem.W.Frag} {m : Mp} {h : AH} {H : Hp} {t : Tg} {w : W} {v : V} {s s1 : Sl} {σ : St} {Q : St → Hp → Prop} (R : Rel G m h H) (r : VR G m w v) (e : t.put w s h = some s1) (S : SlR G m s σ)
    (q : ∀ σ1, SlR G m s1 σ1 → (∀ own, (∀ i ∈ t.slots, i ∈ own) → L2.wipe σ1 own = L2.wipe σ own) → Q σ1 H) : gT K t v σ H Q := by
  cases t with
  | nm i =>
    have e' : sput s i (some w) = s1 := by simpa [Tg.put] using e
    subst e'
    exact q _ (SlR.put (a := some w) (v := some v) ⟨v, rfl, r⟩ i S) fun own ho => wipe_set (ho i List.mem_cons_self)
  | tp is =>
    unfold Tg.put at e
    cases w with
    | ref l =>
      dsimp only at e
      cases e1 : titems h l with
      | none =>
        rw [e1] at e
        cases e
      | some ws =>
        rw [e1] at e
        obtain ⟨a, ha, rfl⟩ := r
        obtain ⟨vs, rs, hH⟩ := titems_of R ha e1
        exact ⟨a, vs, rfl, .inl (.inl hH), (vrs_len rs).symm.trans (sputs_len e), gNs_read rs e S q⟩
    | _ => cases e
/-- target = e, the target's tuple unpacked -/
theorem pms_tgt {tg e : Expr} {t : Tg} {g : EM} (he : PE X e (tE G Z g)) (hg : PG X tg (gT X.K t)) (hs : swapsWithSole [tg] e pos.line X.env = pure false := by rfl) (hw : swappedStores [tg] e X.env = pure none := by rfl)
    (h1 : (assignEach [tg] X.env).map (·.2) = [assign tg X.env] := by rfl) : PS X (.Assign [tg] e pos) (tS G Z (sTgt t g)) := ps_of (L2.ps_asg he hg hs hw h1) fun D σ H h =>
  sr_read h fun w v H1 m1 h1 s r R1 S1 q => by
    cases e4 : t.put w s h1 with
    | none =>
      rw [e4] at q
      exact q.elim
    | some s1 =>
      rw [e4] at q
      exact gT_read R1 r e4 S1 fun σ1 S2 _ => q m1 σ1 H1 (.refl m1) R1 S2
/-- a, b = e1, e2 with plain local names; no tuple is seen -/
def sPar (i j : Nat) (a b : EM) : SM := fun σ h => (a σ h).toSR σ fun v h1 => (b σ h1).toSR σ fun w h2 => .nx (sput (sput σ i (some v)) j (some w)) h2
theorem pms_par {i j : Nat} {x y : Str} {a b : Expr} {ga gb : EM} {px py pt : Pos} {kt k2 pt2} (hc : X.calm = true) (hN : X.N.Nodup) (ha : PE X a (tE G Z ga)) (hb : PE X b (tE G Z gb)) (hi : X.N[i]? = some x := by rfl) (hj : X.N[j]? = some y := by rfl) (hij : i ≠ j := by decide)
    (hx : X.env.scope.names.lookup x = some .local := by rfl) (hy : X.env.scope.names.lookup y = some .local := by rfl)
    (hw : swappedStores [.Tuple [.Name x px, .Name y py] kt pt] (.Tuple [a, b] k2 pt2) X.env = pure (some [x, y]) := by rfl)
    (hs : swapsWithSole [.Tuple [.Name x px, .Name y py] kt pt] (.Tuple [a, b] k2 pt2) pos.line X.env = pure false := by rfl)
    (h1 : starEach (a :: [b]) X.env = (false, eval a X.env) :: starEach [b] X.env := by rfl) (h2 : starEach (b :: []) X.env = (false, eval b X.env) :: starEach [] X.env := by rfl) :
    PS X (.Assign [.Tuple [.Name x px, .Name y py] kt pt] (.Tuple [a, b] k2 pt2) pos) (tS G Z (sPar i j ga gb)) := ps_of (L2.ps_par hc hN hi hj hij hx hy (L2.pa_cons ha (L2.pa_cons hb L2.pa_nil h2) h1) hw hs) fun D σ H h =>
  sr_read h fun w v H1 m1 h1 s r R1 S1 q => by
    refine ⟨m1, h1, s, R1, S1, (Sat.toSR (R := VR G) S1 q).imp fun u H2 z => ?_⟩
    obtain ⟨m2, w2, h2, l2, R2, r2, q2⟩ := z
    exact ⟨v, u, rfl, q2 m2 _ H2 (.refl m2) R2 (SlR.put (a := some w2) (v := some u) ⟨u, rfl, r2⟩ j (SlR.put (a := some w) (v := some v) ⟨v, rfl, r.mono l2⟩ i (S1.mono l2)))⟩

/-! ### what is walked -/
def JR (G : Gx) (m : Mp) (M : MIt) (J : It) : Prop := ∀ m' h H i, m.Le m' → Rel G m' h H → (M.next i h = .stop → J.stop i H) ∧ ∀ x h', M.next i h = .yld x h' → J.go i H ∧ ∀ v H', J.yld i H v H' → ∃ m2, m'.Le m2 ∧ Rel G m2 h' H' ∧ VR G m2 x v
abbrev tI (G : Gx) (Z : WX) (g : IM) : TI := tX G Z (JR G) g
theorem pi_of {tg e : Expr} {t t' : TI} (h : PI X tg e t) (f : ∀ σ H Q, t' σ H Q → t σ H Q) : PI X tg e t' := ⟨fun pins s σ H Q I q => h.run pins s σ H Q I (f σ H Q q)⟩
theorem nth_get : ∀ {xs : List W} {i : Nat}, nth xs i = xs[i]?
  | [], i => by simp [nth]
  | _ :: _, 0 => by simp [nth]
  | _ :: r, i + 1 => by
    show nth r i = _
    rw [nth_get]
    simp
theorem vrs_get {m : Mp} : ∀ {ws : List W} {vs : List V} {i : Nat} {w : W}, VRs G m ws vs → ws[i]? = some w → ∃ v, vs[i]? = some v ∧ VR G m w v
  | _, _, _, _, .nil, e => by simp at e
  | w0 :: _, _ :: _, 0, w, .cons r _, e => by
    have e' : w0 = w := by simpa using e
    subst e'
    exact ⟨_, rfl, r⟩
  | _, _, i + 1, w, .cons _ t, e => by
    obtain ⟨u, h1, h2⟩ := vrs_get (i := i) (w := w) t (by simpa using e)
    exact ⟨u, by simpa using h1, h2⟩
theorem vrs_app {m : Mp} : ∀ {ws : List W} {vs : List V} {w : W} {v : V}, VRs G m ws vs → VR G m w v → VRs G m (ws ++ [w]) (vs ++ [v])
  | _, _, _, _, .nil, r => .cons r .nil
  | _, _, _, _, .cons q t, r => .cons q (vrs_app t r)
theorem vrs_none {m : Mp} {ws : List W} {vs : List V} {i : Nat} (r : VRs G m ws vs) (e : ws[i]? = none) : vs.length ≤ i := by
  rw [← vrs_len r]
  exact List.getElem?_eq_none_iff.mp e
theorem jr_lst {K : PySem.W.Frag} {m : Mp} {l : Nat} {a : Addr} (ha : m.as[l]? = some a) : JR G m (.lst l) (L2.Itl K a) := fun m' h H i x R => by
  unfold MIt.next
  dsimp only
  cases e : litems h l with
  | none => exact ⟨(fun z => nomatch z), (fun _ _ z => nomatch z)⟩
  | some ws =>
    obtain ⟨vs, r, hq⟩ := litems_of K R (x.at ha) e
    dsimp only
    rw [nth_get]
    cases e2 : ws[i]? with
    | none => exact ⟨fun _ => ⟨vs, hq, vrs_none r e2⟩, (fun _ _ z => nomatch z)⟩
    | some w =>
      refine ⟨(fun z => nomatch z), fun x h' z => ?_⟩
      cases z
      obtain ⟨v, e3, rv⟩ := vrs_get r e2
      refine ⟨⟨vs, v, hq, e3⟩, fun v' H' y => ?_⟩
      obtain ⟨eH, f⟩ := y
      subst eH
      have e5 := (f vs hq).symm.trans e3
      cases e5
      exact ⟨m', .refl m', R, rv⟩
theorem jr_tup {K : PySem.W.Frag} {m : Mp} {l : Nat} {a : Addr} (ha : m.as[l]? = some a) : JR G m (.tup l) (L2.Itt K a) := fun m' h H i x R => by
  unfold MIt.next
  dsimp only
  cases e : titems h l with
  | none => exact ⟨(fun z => nomatch z), (fun _ _ z => nomatch z)⟩
  | some ws =>
    obtain ⟨vs, r, hH⟩ := titems_of R (x.at ha) e
    have hq : L2.SqT K H a vs := .inl (.inl hH)
    dsimp only
    rw [nth_get]
    cases e2 : ws[i]? with
    | none => exact ⟨fun _ => ⟨vs, hq, vrs_none r e2⟩, (fun _ _ z => nomatch z)⟩
    | some w =>
      refine ⟨(fun z => nomatch z), fun x h' z => ?_⟩
      cases z
      obtain ⟨v, e3, rv⟩ := vrs_get r e2
      refine ⟨⟨vs, v, hq, e3⟩, fun v' H' y => ?_⟩
      obtain ⟨eH, f⟩ := y
      subst eH
      have e5 := (f vs hq).symm.trans e3
      cases e5
      exact ⟨m', .refl m', R, rv⟩
theorem jr_rng {m : Mp} {lo : Int} {n : Nat} : JR G m (.rng lo n) (L2.Itr lo n) := fun m' h H i x R => by
  unfold MIt.next
  dsimp only
  cases e : Nat.blt i n with
  | true =>
    refine ⟨(fun z => nomatch z), fun x h' z => ?_⟩
    cases z
    refine ⟨(show i < n by simpa using e), fun v H' y => ?_⟩
    obtain ⟨eH, ev⟩ := y
    subst eH
    subst ev
    exact ⟨m', .refl m', R, rfl⟩
  | false =>
    refine ⟨fun _ => ?_, (fun _ _ z => nomatch z)⟩
    have e' : ¬ i < n := fun z => by
      have : Nat.blt i n = true := by simpa using z
      rw [e] at this
      cases this
    exact Nat.le_of_not_lt e'
theorem jr_enu {K : PySem.W.Frag} {m : Mp} {l : Nat} {a : Addr} (ha : m.as[l]? = some a) : JR G m (.enu l) (L2.Ite K a) := fun m' h H i x R => by
  unfold MIt.next
  dsimp only
  cases e : litems h l with
  | none => exact ⟨(fun z => nomatch z), (fun _ _ z => nomatch z)⟩
  | some ws =>
    obtain ⟨vs, r, hq⟩ := litems_of K R (x.at ha) e
    dsimp only
    rw [nth_get]
    cases e2 : ws[i]? with
    | none => exact ⟨fun _ => ⟨vs, hq, vrs_none r e2⟩, (fun _ _ z => nomatch z)⟩
    | some w =>
      refine ⟨(fun z => nomatch z), fun x h' z => ?_⟩
      cases z
      obtain ⟨v, e3, rv⟩ := vrs_get r e2
      refine ⟨⟨vs, v, hq, e3⟩, fun v' H' y => ?_⟩
      obtain ⟨T, x1, rfl, nT, rfl, f⟩ := y
      have e5 := (f vs hq).symm.trans e3
      cases e5
      refine ⟨m'.snoc T, m'.le_snoc T, R.new (c := .tup [.int i, w]) nT ⟨_, .cons rfl (.cons (rv.mono (m'.le_snoc T)) .nil), rfl⟩, T, ?_, rfl⟩
      show (m'.as ++ [T])[h.n]? = some T
      rw [← R.len]
      exact List.getElem?_concat_length
theorem jr_zip {K : PySem.W.Frag} {m : Mp} {l l2 : Nat} {a b : Addr} (ha : m.as[l]? = some a) (hb : m.as[l2]? = some b) : JR G m (.zip l l2) (L2.Itz K a b) := fun m' h H i x R => by
  unfold MIt.next
  dsimp only
  cases e : litems h l with
  | none => exact ⟨(fun z => nomatch z), (fun _ _ z => nomatch z)⟩
  | some ws =>
    obtain ⟨vs, r, hq⟩ := litems_of K R (x.at ha) e
    cases e' : litems h l2 with
    | none => exact ⟨(fun z => nomatch z), (fun _ _ z => nomatch z)⟩
    | some us =>
      obtain ⟨ys, r', hq'⟩ := litems_of K R (x.at hb) e'
      dsimp only
      rw [nth_get, nth_get]
      cases e2 : ws[i]? with
      | none => exact ⟨fun _ => ⟨vs, ys, hq, hq', .inl (vrs_none r e2)⟩, (fun _ _ z => nomatch z)⟩
      | some w =>
        cases e2' : us[i]? with
        | none => exact ⟨fun _ => ⟨vs, ys, hq, hq', .inr (vrs_none r' e2')⟩, (fun _ _ z => nomatch z)⟩
        | some w' =>
          refine ⟨(fun z => nomatch z), fun x h' z => ?_⟩
          cases z
          obtain ⟨v, e3, rv⟩ := vrs_get r e2
          obtain ⟨u, e3', rv'⟩ := vrs_get r' e2'
          refine ⟨⟨vs, ys, v, u, hq, hq', e3, e3'⟩, fun v' H' y => ?_⟩
          obtain ⟨T, x1, x2, rfl, nT, rfl, f, f'⟩ := y
          have e5 := (f vs hq).symm.trans e3
          have e5' := (f' ys hq').symm.trans e3'
          cases e5
          cases e5'
          refine ⟨m'.snoc T, m'.le_snoc T, R.new (c := .tup [w, w']) nT ⟨_, .cons (rv.mono (m'.le_snoc T)) (.cons (rv'.mono (m'.le_snoc T)) .nil), rfl⟩, T, ?_, rfl⟩
          show (m'.as ++ [T])[h.n]? = some T
          rw [← R.len]
          exact List.getElem?_concat_length
/-! ### for -/
theorem pms_for {tg iter : Expr} {body : List Stmt} {gi : IM} {t : Tg} {gb : SM} (hp : PassesOwn (model X.prog X.w) X.A X.env X.xe) (hc : X.calm = true) (hi : PI X tg iter (tI G Z gi)) (hg : PG X tg (gT X.K t)) (hb : PSs X body (tS G Z gb))
    (hs : ∀ x, foldedSetIterable iter X.env x = pure x := by intro _; rfl) : PS X (.For tg iter body [] pos) (tS G Z (sFor gi t gb)) := ps_of (L2.ps_for hp hc hi hg hb hs) fun D σ H h => by
  obtain ⟨m, h, s, R, S, q⟩ := h
  refine ⟨m, h, s, R, S, (Sat.toSR (R := JR G) S q).imp fun J H1 z => ?_⟩
  obtain ⟨m1, M, h1, l1, R1, jr, q1⟩ := z
  refine ⟨fun i f σ H => ∃ m2 h2 s2, m1.Le m2 ∧ Rel G m2 h2 H ∧ SlR G m2 s2 σ ∧ SatS G m2 Z D (forLoop M t gb f i s2 h2), ⟨1000001, m1, h1, s, .refl m1, R1, S.mono l1, q1⟩, ?_⟩
  rintro i f σ' H' ⟨m2, h2, s2, l2, R2, S2, q2⟩
  cases f with
  | zero => exact q2.elim
  | succ f =>
    unfold forLoop at q2
    obtain ⟨j1, j2⟩ := jr m2 h2 H' i l2 R2
    cases e : M.next i h2 with
    | no =>
      rw [e] at q2
      exact q2.elim
    | stop =>
      rw [e] at q2
      exact .inl ⟨j1 e, q2 m2 σ' H' (.refl m2) R2 S2⟩
    | yld x h3 =>
      rw [e] at q2
      dsimp only at q2
      obtain ⟨jg, jy⟩ := j2 x h3 e
      refine .inr ⟨jg, _, fun σ3 H3 z => ⟨f, Nat.lt_succ_self f, z⟩, fun v H3 y => ?_⟩
      obtain ⟨m3, l3, R3, rv⟩ := jy v H3 y
      cases e4 : t.put x s2 h3 with
      | none =>
        rw [e4] at q2
        exact q2.elim
      | some s3 =>
        rw [e4] at q2
        dsimp only at q2
        refine gT_read R3 rv e4 (S2.mono l3) fun σ4 S4 _ => ⟨m3, h3, s3, R3, S4, ?_⟩
        have q3 := q2.mono l3
        cases e5 : gb s3 h3 with
        | nx s5 h5 =>
          rw [e5] at q3
          exact fun m6 σ6 H6 l6 R6 S6 => ⟨m6, h5, s5, (l2.trans l3).trans l6, R6, S6, q3.mono l6⟩
        | ct s5 h5 =>
          rw [e5] at q3
          exact fun m6 σ6 H6 l6 R6 S6 => ⟨m6, h5, s5, (l2.trans l3).trans l6, R6, S6, q3.mono l6⟩
        | bk s5 h5 =>
          rw [e5] at q3
          exact q3
        | rt _ _ =>
          rw [e5] at q3
          exact q3
        | exc _ _ _ _ =>
          rw [e5] at q3
          exact q3
        | no =>
          rw [e5] at q3
          exact q3
/-! ### while -/
theorem pms_while {c : Expr} {body : List Stmt} {gc : CM} {gb : SM} (hp : PassesOwn (model X.prog X.w) X.A X.env X.xe) (hc : PT X c (tC G Z gc)) (hb : PSs X body (tS G Z gb)) : PS X (.While c body [] pos) (tS G Z (sWhile gc gb)) := ps_of (L2.ps_while hp hc hb) fun D σ H h => by
  obtain ⟨m, h, s, R, S, q⟩ := h
  refine ⟨fun f σ H => ∃ m2 h2 s2, Rel G m2 h2 H ∧ SlR G m2 s2 σ ∧ SatS G m2 Z D (whileLoop gc gb f s2 h2), ⟨1000001, m, h, s, R, S, q⟩, ?_⟩
  rintro f σ' H' ⟨m2, h2, s2, R2, S2, q2⟩
  cases f with
  | zero => exact q2.elim
  | succ f =>
    unfold whileLoop at q2
    refine ⟨m2, h2, s2, R2, S2, ?_⟩
    cases e : gc s2 h2 with
    | no =>
      rw [e] at q2
      exact q2
    | exc x d h3 =>
      rw [e] at q2
      exact fun m3 H3 ad l3 R3 ed => q2 m3 σ' H3 ad l3 R3 (S2.mono l3) ed
    | ok b h3 =>
      rw [e] at q2
      intro m3 H3 b' l3 R3 eb
      cases eb
      cases b with
      | false => exact q2 m3 σ' H3 l3 R3 (S2.mono l3)
      | true =>
        refine ⟨_, fun σ4 H4 z => ⟨f, Nat.lt_succ_self f, z⟩, m3, h3, s2, R3, S2.mono l3, ?_⟩
        have q3 := SatS.mono l3 q2
        dsimp only at q3
        cases e5 : gb s2 h3 with
        | nx s5 h5 =>
          rw [e5] at q3
          exact fun m6 σ6 H6 l6 R6 S6 => ⟨m6, h5, s5, R6, S6, q3.mono l6⟩
        | ct s5 h5 =>
          rw [e5] at q3
          exact fun m6 σ6 H6 l6 R6 S6 => ⟨m6, h5, s5, R6, S6, q3.mono l6⟩
        | bk s5 h5 =>
          rw [e5] at q3
          exact q3
        | rt _ _ =>
          rw [e5] at q3
          exact q3
        | exc _ _ _ _ =>
          rw [e5] at q3
          exact q3
        | no =>
          rw [e5] at q3
          exact q3
/-! ### what may be walked -/
def iSeq (e : EM) : IM := fun σ h => (e σ h).bind fun x h1 => match x with
  | .ref l => (match litems h1 l with
    | some _ => .ok (.lst l) h1
    | none => (match titems h1 l with
      | some _ => .ok (.tup l) h1
      | none => .no))
  | _ => .no
def iEnu (e : EM) : IM := fun σ h => (e σ h).bind fun x h1 => match x with
  | .ref l => (match litems h1 l with
    | some _ => .ok (.enu l) h1
    | none => .no)
  | _ => .no
def iZip (a b : EM) : IM := fun σ h => (a σ h).bind fun x h1 => (b σ h1).bind fun y h2 => match x, y with
  | .ref l, .ref l2 => (match litems h2 l, litems h2 l2 with
    | some _, some _ => .ok (.zip l l2) h2
    | _, _ => .no)
  | _, _ => .no
def smallI (i : Int) : Bool := ilt (-4611686018427387905) i && ilt i 4611686018427387904
def iRng1 (e : EM) : IM := fun σ h => (e σ h).bind fun x h1 => match x with
  | .int j => (match smallI j with
    | true => .ok (.rng 0 j.toNat) h1
    | false => .no)
  | _ => .no
def iRng2 (a b : EM) : IM := fun σ h => (a σ h).bind fun x h1 => (b σ h1).bind fun y h2 => match x, y with
  | .int i, .int j => (match smallI i && smallI j with
    | true => .ok (.rng i (j - i).toNat) h2
    | false => .no)
  | _, _ => .no
theorem small_lo {i : Int} (h : smallI i = true) : -(2 ^ 62) ≤ i := by
  have h1 := (Bool.and_eq_true_iff.mp h).1
  rw [ilt_iff, decide_eq_true_iff] at h1
  omega
theorem small_hi {i : Int} (h : smallI i = true) : i < 2 ^ 62 := by
  have h1 := (Bool.and_eq_true_iff.mp h).2
  rw [ilt_iff, decide_eq_true_iff] at h1
  omega
/-- a list or a tuple, whichever it is -/
def iBoth (K : PySem.W.Frag) (tl : TE) : TI := fun σ H R => tl σ H fun x H1 => ∃ a, x = .ref a ∧ ((∃ xs, L2.SqL K H1 a xs) ∧ R (L2.Itl K a) H1 ∨ (∃ xs, L2.SqT K H1 a xs) ∧ R (L2.Itt K a) H1)
theorem pi_both {tg l : Expr} {tl : TE} (hl : PE X l tl) : PI X tg l (iBoth X.K tl) := by
  refine ⟨fun pins s σ H R I h => ?_⟩
  refine L2.thn (hl.run pins s σ H _ I h) fun v s1 ⟨x, H1, I1, r1, a, e, q⟩ => ?_
  subst e
  cases r1
  have nw : ∀ b ∈ [s1.heap.objs.size], L2.FpOk X pins H1 b := fun b hb => by
    rw [List.mem_singleton.mp hb]
    exact I1.fpOk (Nat.le_refl _) (I1.hok.fresh (Nat.le_refl _))
  rcases q with ⟨⟨xs, hq⟩, q⟩ | ⟨⟨xs, hq⟩, q⟩
  · obtain ⟨its, rv, pl, hz⟩ := I1.list hq
    refine wpAny_pyIter_list pl.isList ?_
    exact ⟨s1.heap.objs.size, [s1.heap.objs.size], _, _, H1, rfl, I1.kept (t' := s1.toks) fun b o e => Heap.get?_push_of_some _ e, L2.turn_list a _, ⟨_, Heap.get?_push_size _ rfl, rfl, rfl⟩, nw, q⟩
  · obtain ⟨its, rv, pl, hz⟩ := I1.tuple hq
    refine wpAny_pyIter_tuple (show s1.heap.IsTuple a its.toArray from pl) ?_
    exact ⟨s1.heap.objs.size, [s1.heap.objs.size], _, _, H1, rfl, I1.kept (t' := s1.toks) fun b o e => Heap.get?_push_of_some _ e, L2.turn_tuple a _, ⟨_, Heap.get?_push_size _ rfl, rfl, rfl⟩, nw, q⟩
theorem pmi_seq {tg l : Expr} {g : EM} (hl : PE X l (tE G Z g)) : PI X tg l (tI G Z (iSeq g)) := pi_of (pi_both hl) fun σ H Q h => by
  obtain ⟨m, h, s, R, S, q⟩ := h
  refine ⟨m, h, s, R, S, (Sat.bind (R := VR G) q).imp fun x H1 z => ?_⟩
  obtain ⟨m1, w, h1, l1, R1, ra, q1⟩ := z
  cases w with
  | ref l =>
    obtain ⟨a, ha, rfl⟩ := ra
    refine ⟨a, rfl, ?_⟩
    dsimp only at q1
    cases e : litems h1 l with
    | some ws =>
      rw [e] at q1
      obtain ⟨vs, r, hq⟩ := litems_of X.K R1 ha e
      exact .inl ⟨⟨vs, hq⟩, q1 m1 H1 _ (.refl m1) R1 (jr_lst ha)⟩
    | none =>
      rw [e] at q1
      dsimp only at q1
      cases e2 : titems h1 l with
      | none =>
        rw [e2] at q1
        exact q1.elim
      | some ws =>
        rw [e2] at q1
        obtain ⟨vs, r, hq⟩ := titems_of R1 ha e2
        exact .inr ⟨⟨vs, .inl (.inl hq)⟩, q1 m1 H1 _ (.refl m1) R1 (jr_tup ha)⟩
  | _ => exact q1.elim
theorem pmi_rng1 {tg a : Expr} {g : EM} {p : Pos} (hg : Gl X "range") (hm : X.mg "range" = none) (ha : PE X a (tE G Z g)) (h1 : starEach (a :: []) X.env = (false, eval a X.env) :: starEach [] X.env := by rfl) (hs : starEach [a] X.env = [(false, eval a X.env)] := by rfl) :
    PI X tg (.Call (.Name "range" p) [a] [] pos) (tI G Z (iRng1 g)) := pi_of (L2.pi_range1 hg hm (L2.pa_cons ha L2.pa_nil h1) hs) fun σ H Q h => by
  obtain ⟨m, h, s, R, S, q⟩ := h
  refine ⟨m, h, s, R, S, (Sat.bind (R := VR G) q).imp fun x H1 z => ?_⟩
  obtain ⟨m1, w, h1, l1, R1, ra, q1⟩ := z
  cases w with
  | int j =>
    dsimp only at q1
    cases e : smallI j with
    | false =>
      rw [e] at q1
      exact q1.elim
    | true =>
      rw [e] at q1
      cases ra
      exact ⟨j, rfl, small_lo e, small_hi e, q1 m1 H1 _ (.refl m1) R1 jr_rng⟩
  | _ => exact q1.elim
theorem pmi_rng2 {tg a b : Expr} {ga gb : EM} {p : Pos} (hg : Gl X "range") (hm : X.mg "range" = none) (ha : PE X a (tE G Z ga)) (hb : PE X b (tE G Z gb)) (h1 : starEach (a :: [b]) X.env = (false, eval a X.env) :: starEach [b] X.env := by rfl) (h2 : starEach (b :: []) X.env = (false, eval b X.env) :: starEach [] X.env := by rfl)
    (hs : starEach [a, b] X.env = [(false, eval a X.env), (false, eval b X.env)] := by rfl) (hs2 : starEach [b] X.env = [(false, eval b X.env)] := by rfl) :
    PI X tg (.Call (.Name "range" p) [a, b] [] pos) (tI G Z (iRng2 ga gb)) := pi_of (L2.pi_range2 hg hm (L2.pa_cons ha (L2.pa_cons hb L2.pa_nil h2) h1) hs hs2) fun σ H Q h => by
  obtain ⟨m, h, s, R, S, q⟩ := h
  refine ⟨m, h, s, R, S, (Sat.bind (R := VR G) q).imp fun x H1 z => ?_⟩
  obtain ⟨m1, w, h1, l1, R1, ra, q1⟩ := z
  refine ⟨m1, h1, s, R1, S.mono l1, (Sat.bind (R := VR G) q1).imp fun y H2 z => ?_⟩
  obtain ⟨m2, w', h2, l2, R2, rb, q2⟩ := z
  cases w with
  | int i =>
    cases w' with
    | int j =>
      dsimp only at q2
      cases e : smallI i && smallI j with
      | false =>
        rw [e] at q2
        exact q2.elim
      | true =>
        rw [e] at q2
        cases ra
        cases rb
        obtain ⟨e1, e2⟩ := Bool.and_eq_true_iff.mp e
        exact ⟨i, j, rfl, ⟨small_lo e1, small_hi e1, small_lo e2, small_hi e2⟩, q2 m2 H2 _ (.refl m2) R2 jr_rng⟩
    | _ => exact q2.elim
  | _ => exact q2.elim
theorem pmi_enu {a : Expr} {g : EM} {p tpos : Pos} {elts : List Expr} {kk : Nat} (hg : Gl X "enumerate") (hm : X.mg "enumerate" = none) (ha : PE X a (tE G Z g)) (h1 : starEach (a :: []) X.env = (false, eval a X.env) :: starEach [] X.env := by rfl) (hs : starEach [a] X.env = [(false, eval a X.env)] := by rfl) :
    PI X (.Tuple elts kk tpos) (.Call (.Name "enumerate" p) [a] [] pos) (tI G Z (iEnu g)) := pi_of (L2.pi_enum hg hm (L2.pa_cons ha L2.pa_nil h1) hs) fun σ H Q h => by
  obtain ⟨m, h, s, R, S, q⟩ := h
  refine ⟨m, h, s, R, S, (Sat.bind (R := VR G) q).imp fun x H1 z => ?_⟩
  obtain ⟨m1, w, h1, l1, R1, ra, q1⟩ := z
  cases w with
  | ref l =>
    obtain ⟨a, ha, rfl⟩ := ra
    dsimp only at q1
    cases e : litems h1 l with
    | some ws =>
      rw [e] at q1
      obtain ⟨vs, r, hq⟩ := litems_of X.K R1 ha e
      exact ⟨a, vs, rfl, hq, q1 m1 H1 _ (.refl m1) R1 (jr_enu ha)⟩
    | none =>
      rw [e] at q1
      exact q1.elim
  | _ => exact q1.elim
theorem pmi_zip {a b : Expr} {ga gb : EM} {p tpos : Pos} {elts : List Expr} {kk : Nat} (hg : Gl X "zip") (hm : X.mg "zip" = none) (ha : PE X a (tE G Z ga)) (hb : PE X b (tE G Z gb)) (h1 : starEach (a :: [b]) X.env = (false, eval a X.env) :: starEach [b] X.env := by rfl) (h2 : starEach (b :: []) X.env = (false, eval b X.env) :: starEach [] X.env := by rfl)
    (hpl : (backTo pos (starEach [b] X.env)).any (·.1) = false := by rfl) :
    PI X (.Tuple elts kk tpos) (.Call (.Name "zip" p) [a, b] [] pos) (tI G Z (iZip ga gb)) := pi_of (L2.pi_zip hg hm (L2.pa_cons ha (L2.pa_cons hb L2.pa_nil h2) h1) h1 hpl) fun σ H Q h => by
  obtain ⟨m, h, s, R, S, q⟩ := h
  refine ⟨m, h, s, R, S, (Sat.bind (R := VR G) q).imp fun x H1 z => ?_⟩
  obtain ⟨m1, w, h1, l1, R1, ra, q1⟩ := z
  refine ⟨m1, h1, s, R1, S.mono l1, (Sat.bind (R := VR G) q1).imp fun y H2 z => ?_⟩
  obtain ⟨m2, w', h2, l2, R2, rb, q2⟩ := z
  cases w with
  | ref l =>
    cases w' with
    | ref l' =>
      obtain ⟨a, ha, rfl⟩ := ra
      obtain ⟨b, hb, rfl⟩ := rb
      dsimp only at q2
      cases e : litems h2 l with
      | none =>
        rw [e] at q2
        exact q2.elim
      | some ws =>
        cases e' : litems h2 l' with
        | none =>
          rw [e, e'] at q2
          exact q2.elim
        | some us =>
          rw [e, e'] at q2
          obtain ⟨vs, r, hq⟩ := litems_of X.K R2 (l2.at ha) e
          obtain ⟨ys, r', hq'⟩ := litems_of X.K R2 hb e'
          exact ⟨a, b, vs, ys, rfl, hq, hq', q2 m2 H2 _ (.refl m2) R2 (jr_zip (l2.at ha) hb)⟩
    | _ => exact q2.elim
  | _ => exact q2.elim
/-! ### comprehensions -/
abbrev Z0 : WX := fun _ _ _ _ => False
theorem lc_read {K : PySem.W.Frag} {gi : IM} {t : Tg} {own : List Nat} {gc : CM} {ge : EM} (ho : ∀ i ∈ t.slots, i ∈ own) {σ : St} {H : Hp} {Q : VK} (h : tE G Z (eLc gi t own gc ge) σ H Q) : L2.tLc (tI G Z gi) (gT K t) (tC G Z0 gc) (tE G Z0 ge) own σ H Q := by
  obtain ⟨m, h, s, R, S, q⟩ := h
  refine ⟨m, h, s, R, S, (Sat.bind (R := JR G) q).imp fun J H1 z => ?_⟩
  obtain ⟨m1, M, h1, l1, R1, jr, q1⟩ := z
  intro D nD
  have S1 := (S.mono l1).wipe own
  refine ⟨fun i f H => ∃ m2 h2, (m1.snoc D).Le m2 ∧ Rel G m2 h2 H ∧ Sat G m2 (fun c d H => Z c d σ H) (VR G) (lcLoop M t own gc ge h1.n (swipe s own) f i h2) Q,
    ⟨1000001, m1.snoc D, _, .refl _, R1.new (c := .lst []) nD ⟨[], .nil, rfl⟩, q1.mono (m1.le_snoc D)⟩, ?_⟩
  have hD : (m1.snoc D).as[h1.n]? = some D := by
    show (m1.as ++ [D])[h1.n]? = some D
    rw [← R1.len]
    exact List.getElem?_concat_length
  rintro i f H2 ⟨m2, h2, l2, R2, q2⟩
  cases f with
  | zero => exact q2.elim
  | succ f =>
    unfold lcLoop at q2
    obtain ⟨j1, j2⟩ := jr m2 h2 H2 i ((m1.le_snoc D).trans l2) R2
    cases e : M.next i h2 with
    | no =>
      rw [e] at q2
      exact q2.elim
    | stop =>
      rw [e] at q2
      exact .inl ⟨j1 e, q2 m2 H2 _ (.refl m2) R2 ⟨D, l2.at hD, rfl⟩⟩
    | yld x h3 =>
      rw [e] at q2
      dsimp only at q2
      obtain ⟨jg, jy⟩ := j2 x h3 e
      refine .inr ⟨jg, _, fun H3 z => ⟨f, Nat.lt_succ_self f, z⟩, fun v H3 y => ?_⟩
      obtain ⟨m3, l3, R3, rv⟩ := jy v H3 y
      have le3 := (m1.le_snoc D).trans (l2.trans l3)
      cases e4 : t.put x (swipe s own) h3 with
      | none =>
        rw [e4] at q2
        exact q2.elim
      | some s3 =>
        rw [e4] at q2
        dsimp only at q2
        have q3 := q2.mono l3
        refine gT_read R3 rv e4 (S1.mono le3) fun σ4 S4 hw => ⟨by rw [hw own ho, wipe_wipe], m3, h3, s3, R3, S4, ?_⟩
        cases e5 : gc s3 h3 with
        | no =>
          rw [e5] at q3
          exact q3.elim
        | exc _ _ _ =>
          rw [e5] at q3
          exact q3.elim
        | ok b h5 =>
          rw [e5] at q3
          intro m5 H5 b' l5 R5 eb
          cases eb
          cases b with
          | false => exact ⟨m5, h5, (l2.trans l3).trans l5, R5, q3.mono l5⟩
          | true =>
            dsimp only at q3
            refine ⟨m5, h5, s3, R5, S4.mono l5, ?_⟩
            have q5 := q3.mono l5
            cases e6 : ge s3 h5 with
            | no =>
              rw [e6] at q5
              exact q5.elim
            | exc _ _ _ =>
              rw [e6] at q5
              exact q5.elim
            | ok w h7 =>
              rw [e6] at q5
              intro m7 H7 u l7 R7 ru
              have d7 := (l2.trans l3).trans (l5.trans l7)
              dsimp only at q5
              cases e8 : h7.get h1.n with
              | none =>
                rw [e8] at q5
                exact q5.elim
              | some c =>
                rw [e8] at q5
                cases c with
                | lst acc =>
                  dsimp only at q5
                  obtain ⟨o, eo, cr⟩ := R7.see (d7.at hD) e8
                  obtain ⟨vs, rs, rfl⟩ := cr
                  cases e9 : Nat.blt acc.length 1000000 with
                  | false =>
                    rw [e9] at q5
                    exact q5.elim
                  | true =>
                    rw [e9] at q5
                    refine ⟨vs, eo, ?_, m7, _, d7, R7.put (c' := .lst (acc ++ [w])) (d7.at hD) e8 rfl ⟨vs ++ [u], vrs_app rs ru, rfl⟩, q5.mono l7⟩
                    · rw [← vrs_len rs]
                      have lt : acc.length < 1000000 := by simpa using e9
                      exact Nat.lt_of_lt_of_le lt (by rw [sizeLine_eq]; decide)
                | _ => exact q5.elim
/-- what a comprehension's parts are proved in: its block's contexts -/
abbrev Blk (X : Cx) (scope : Scope) (P : Cx → Prop) : Prop := ∀ (s : Shared) (H : Hp) (C : Addr) (cl : List (Str × Addr)) (fp : List Addr), P (X.blk s H scope (compEnvC scope cl C X.env) fp)
theorem pmts_nil : L2.PTs X [] (tC G Z cYes) := ⟨fun pins s σ H Q I h => L2.pts_nil.run pins s σ H Q I (by
  obtain ⟨m, h, s, R, S, q⟩ := h
  exact q m H true (.refl m) R rfl)⟩
theorem pmts_one {c : Expr} {g : CM} (h : PT X c (tC G Z g)) : L2.PTs X [c] (tC G Z g) := L2.pts_one h
theorem pm_lc {elt tg iter : Expr} {ifs : List Expr} {scope : Scope} (own : List (Str × Nat)) {gi : IM} {t : Tg} {gc : CM} {ge : EM} (hc : X.calm = true) (hN : X.N.Nodup) (hi : PI X tg iter (tI G Z gi)) (ok : L2.BlkOk X.N X.env.scope scope own)
    (hg : Blk X scope fun Y => PG Y tg (gT Y.K t)) (ht : Blk X scope fun Y => L2.PTs Y ifs (tC G Z0 gc)) (he : Blk X scope fun Y => PE Y elt (tE G Z0 ge)) (ho : ∀ i ∈ t.slots, i ∈ own.map (·.2) := by decide) (hs : ∀ x, foldedSetIterable iter X.env x = pure x := by intro _; rfl) :
    PE X (.ListComp elt [⟨tg, iter, ifs, 0⟩] scope pos) (tE G Z (eLc gi t (own.map (·.2)) gc ge)) := pe_of (L2.pe_lc hc hN hi ok hg ht he hs) fun _ _ _ h => lc_read ho h
theorem pms_setLc {i : Nat} {y : Str} {py : Pos} {elt tg iter : Expr} {ifs : List Expr} {scope : Scope} (own : List (Str × Nat)) {gi : IM} {t : Tg} {gc : CM} {ge : EM} {spos : Pos} (hc : X.calm = true) (hN : X.N.Nodup)
    (hi : PI X tg iter (tI G Z gi)) (ok : L2.BlkOk X.N X.env.scope scope own) (hg : Blk X scope fun Y => PG Y tg (gT Y.K t)) (ht : Blk X scope fun Y => L2.PTs Y ifs (tC G Z0 gc)) (he : Blk X scope fun Y => PE Y elt (tE G Z0 ge))
    (hsw : swapsWith (.ListComp elt [⟨tg, iter, ifs, 0⟩] scope pos) (some (.Name y py)) spos.line X.env = pure true) (hy : X.N[i]? = some y := by rfl) (hyl : X.env.scope.names.lookup y = some .local := by rfl) (ho : ∀ i ∈ t.slots, i ∈ own.map (·.2) := by decide) (hs : ∀ x, foldedSetIterable iter X.env x = pure x := by intro _; rfl) :
    PS X (.Assign [.Name y py] (.ListComp elt [⟨tg, iter, ifs, 0⟩] scope pos) spos) (tS G Z (sSet i (eLc gi t (own.map (·.2)) gc ge))) := ps_of (L2.ps_setLc hc hN hy hyl hsw hi ok hg ht he hs) fun D σ H h =>
  lc_read ho (sr_read h fun w v H1 m1 h1 s r R1 S1 q => q m1 _ H1 (.refl m1) R1 (SlR.put (a := some w) (v := some v) ⟨v, rfl, r⟩ i S1))
end
/-! ### a def keeps its meaning -/
theorem start_rel {G : Gx} {m : Mp} {N : List Str} : ∀ {ws : List W} {vs : List V}, VRs G m ws vs → SlR G m (start N.length ws) (L2.start N vs) := fun {ws vs} r => by
  unfold start L2.start
  rw [vrs_len r]
  generalize N.length - vs.length = n
  induction r with
  | nil =>
    show SlR G m (List.replicate n none) (List.replicate n none)
    induction n with
    | zero => exact .nil
    | succ n ih => exact .cons trivial ih
  | cons q _ ih => exact .cons ⟨_, rfl, q⟩ ih
theorem callM_len {n k : Nat} {b : SM} {ws : List W} {h : AH} (e : ws.length ≠ k) : callM n k b ws h = .no := by
  unfold callM
  cases q : Nat.beq ws.length k with
  | true => exact absurd (Nat.eq_of_beq_eq_true q) e
  | false => rfl
theorem sat_body {G : Gx} {m : Mp} {E : XK} {Q : VK} {n k : Nat} {b : SM} {ws : List W} {h : AH} (q : Sat G m E (VR G) (callM n k b ws h) Q) : SatS G m (fun c d _ H => E c d H) { nx := fun _ H' => Q .non H', rt := Q } (b (start n ws) h) := by
  unfold callM at q
  cases e : Nat.beq ws.length k with
  | false =>
    rw [e] at q
    exact q.elim
  | true =>
    rw [e] at q
    dsimp only at q
    cases e2 : b (start n ws) h with
    | nx _ _ =>
      rw [e2] at q
      exact fun m' _ H' x R _ => q m' H' .non x R rfl
    | rt _ _ =>
      rw [e2] at q
      exact q
    | bk _ _ =>
      rw [e2] at q
      exact q.elim
    | ct _ _ =>
      rw [e2] at q
      exact q.elim
    | exc _ _ _ _ =>
      rw [e2] at q
      exact fun m' _ H' ad x R _ ea => q m' H' ad x R ea
    | no =>
      rw [e2] at q
      exact q.elim
theorem fn_ok {G : Gx} {P : Program} {w : World} {K : PySem.W.Frag} {mg : Str → Option Value} {x qual : Str} {st : Stmt} {f : Addr} {fd : FuncData} {N ps : List Str} {k : Nat} {b : SM} (F : L2.Fun K x qual st f fd) (S : L2.FnScope N ps (L2.defScope st))
    (hb : ∀ (base : Heap) (cdv : Value) (A : Around) (outer : List Env) (s : Shared) (H : Hp) (E : XK), A.guards = some [] → Room k (A.deeper (envOfC qual (L2.defScope st) s.heap.objs.size f cdv)) →
      PSs (L2.cxOf (L2.CX P w) P w K mg base N qual (L2.defScope st) f cdv A outer s H E) (L2.defBody st) (tS G (fun c d _ H => E c d H) b)) : FnG G P w K mg (k + 1) f fd ps (callM N.length ps.length b) where
  len := fun ws h z => Decidable.byContradiction fun y => z (callM_len y)
  run := fun base A outer s H args us vs Q E m h ws hg hr e0 hbi r R rw q => by
    obtain ⟨oc, od, kV, doc, pm, an, cdv, ct, osl, rfl, lk, hcd⟩ := F.ex
    have hl : ws.length = ps.length := Decidable.byContradiction fun z => q.ne (callM_len z)
    exact LamX.run_ofS lk hcd S hr e0 hbi r (by rw [← hl]; exact (vrs_len rw).symm) fun hr' => ⟨_, hb base cdv A outer s H E hg hr', m, h, _, R, start_rel rw, sat_body q⟩
end Pm
/-! PmOps: numbers, comparisons of numbers, lists and tuples, their methods. -/
namespace Pm
open PySem PySem.Spec
open L2 (V Hp HO Cx Inv PE PT PA PS PSs PW PG PGs PI TE TT TA TS TG TGs TI St VK XK WX Ends RelV Vals upd upd_same upd_ne Takes R2 OpR CallR tOp tVar Vis Gl FnOk Room Binds It)
section
variable {X : Cx} {G : Gx} {Z : WX} {pos : Pos}
theorem opr_of {f : Value → Value → Sem Value} {r r' : R2} (h : OpR X f r) (g : ∀ x y H Q, r' x y H Q → r x y H Q) : OpR X f r' := fun pins s σ H x y v u Q I rx ry q => h pins s σ H x y v u Q I rx ry (g x y H Q q)
theorem unr_of {f : Value → Sem Value} {r r' : V → Hp → VK → Prop} (h : L2.UnR X f r) (g : ∀ x H Q, r' x H Q → r x H Q) : L2.UnR X f r' := fun pins s σ H x v Q I rx q => h pins s σ H x v Q I rx (g x H Q q)
theorem callr_of {f : Value} {r r' : List V → Hp → VK → Prop} (h : CallR X f r) (g : ∀ xs H Q, r' xs H Q → r xs H Q) : CallR X f r' := fun pins s σ H xs us Q I rx q => h pins s σ H xs us Q I rx (g xs H Q q)
theorem callr_or {f : Value} {r r' : List V → Hp → VK → Prop} (h : CallR X f r) (h' : CallR X f r') : CallR X f (fun xs H Q => r xs H Q ∨ r' xs H Q) := fun pins s σ H xs us Q I rx q => q.elim (h pins s σ H xs us Q I rx) (h' pins s σ H xs us Q I rx)
theorem ixr_of {r r' : R2} (h : L2.IxR X r) (g : ∀ x y H Q, r' x y H Q → r x y H Q) : L2.IxR X r' := fun a b pins s σ H x y v u Q I rx ry q => h a b pins s σ H x y v u Q I rx ry (g x y H Q q)
theorem pset_of {t t' : L2.TSet} (h : L2.PSet X t) (g : ∀ o i v H Q, t' o i v H Q → t o i v H Q) : L2.PSet X t' := fun pins s σ H o i v ov iv u Q I ro ri rv q => h pins s σ H o i v ov iv u Q I ro ri rv (g o i v H Q q)

/-! ### places in a list -/
/-- the place that an index means -/
def ixAt (n : Nat) (i : Int) : Option Nat := match i with
  | .ofNat k => (match Nat.blt k n with
    | true => some k
    | false => none)
  | .negSucc k => (match Nat.blt k n with
    | true => some (n - 1 - k)
    | false => none)
theorem ixAt_n {n : Nat} {i : Int} {j : Nat} (h : ixAt n i = some j) : L2.ixN n i = some j ∧ j < n := by
  unfold ixAt at h
  unfold L2.ixN
  cases i with
  | ofNat k =>
    dsimp only at h
    cases e : Nat.blt k n with
    | false =>
      rw [e] at h
      cases h
    | true =>
      rw [e] at h
      cases h
      have lt : j < n := by simpa using e
      have l2 : (Int.ofNat j) < (n : Int) := by simpa using lt
      rw [if_pos (by simp), if_pos l2]
      exact ⟨rfl, lt⟩
  | negSucc k =>
    dsimp only at h
    cases e : Nat.blt k n with
    | false =>
      rw [e] at h
      cases h
    | true =>
      rw [e] at h
      cases h
      have lt : k < n := by simpa using e
      rw [if_neg (by omega), if_pos (by omega)]
      refine ⟨congrArg some ?_, by omega⟩
      omega
/-! ### + - * // % ** -/
def bitsOk (i j : Int) : Bool := Nat.blt (i.natAbs.log2 + j.natAbs.log2) 1000000
def shortI (i : Int) : Bool := Nat.blt i.natAbs 18446744073709551616
/-- a bound of a text's length -/
def wt : SD → Nat
  | .str x => x.length
  | .cat d e => wt d + wt e
  | _ => 20000000
def oAdd : Op2 := fun x y h => match x, y with
  | .int i, .int j => some (.int (i + j), h)
  | .sym k a c, .int j => some (.sym k a (c + j), h)
  | .int i, .sym k a c => some (.sym k a (i + c), h)
  | .ref l, .ref l2 => (match h.get l, h.get l2 with
    | some (.lst xs), some (.lst ys) => (match Nat.ble (xs.length + ys.length) 1000000 with
      | true => some (.ref h.n, h.new (.lst (xs ++ ys)))
      | false => none)
    | _, _ => none)
  | _, _ => none
theorem vrs_apps {m : Mp} {ws : List W} {vs : List V} (r : VRs G m ws vs) : ∀ {ws' : List W} {vs' : List V}, VRs G m ws' vs' → VRs G m (ws ++ ws') (vs ++ vs') := fun {ws' vs'} r' => by
  induction r with
  | nil => exact r'
  | cons q _ ih => exact .cons q ih
theorem or_add : OpR X (binaryOp .Add) (rO G oAdd) := opr_of (L2.op_add.or L2.op_cat) fun x y H Q h => by
  obtain ⟨m, h, a, b, R, ra, rb, q⟩ := h
  cases a with
  | int i =>
    cases b with
    | int j => exact .inl ⟨i, j, ra, rb, q m H _ (.refl m) R rfl⟩
    | sym k a c => exact .inl ⟨i, _, ra, rb, q m H _ (.refl m) R (by
        show V.int (i + (a * G.ρ k + c)) = V.int (a * G.ρ k + (i + c))
        exact congrArg V.int (by omega))⟩
    | _ => exact q.elim
  | sym k a c =>
    cases b with
    | int j => exact .inl ⟨_, j, ra, rb, q m H _ (.refl m) R (by
        show V.int (a * G.ρ k + c + j) = V.int (a * G.ρ k + (c + j))
        exact congrArg V.int (by omega))⟩
    | _ => exact q.elim
  | ref l =>
    cases b with
    | ref l2 =>
      obtain ⟨a, ha, rfl⟩ := ra
      obtain ⟨b, hb, rfl⟩ := rb
      unfold oAdd at q
      dsimp only at q
      cases e1 : h.get l with
      | none =>
        rw [e1] at q
        exact q.elim
      | some c1 =>
        cases e2 : h.get l2 with
        | none =>
          rw [e1, e2] at q
          cases c1 <;> exact q.elim
        | some c2 =>
          rw [e1, e2] at q
          cases c1 with
          | lst xs =>
            cases c2 with
            | lst ys =>
              dsimp only at q
              cases e3 : Nat.ble (xs.length + ys.length) 1000000 with
              | false =>
                rw [e3] at q
                exact q.elim
              | true =>
                rw [e3] at q
                obtain ⟨_, o1, vs, r1, rfl⟩ := R.see ha e1
                obtain ⟨_, o2, us, r2, rfl⟩ := R.see hb e2
                exact .inr ⟨a, b, vs, us, rfl, rfl, o1, o2, by rw [← vrs_len r1, ← vrs_len r2]; exact line_ok e3, fun p np => new_sat (c := .lst (xs ++ ys)) R np ⟨vs ++ us, (vrs_apps r1 r2).mono (m.le_snoc p), rfl⟩ q⟩
            | _ => exact q.elim
          | _ => exact q.elim
    | _ => exact q.elim
  | _ => exact q.elim
def oSub : Op2 := fun x y h => match x, y with
  | .int i, .int j => some (.int (i - j), h)
  | .sym k a c, .int j => some (.sym k a (c - j), h)
  | .int i, .sym k a c => some (.sym k (-a) (i - c), h)
  | _, _ => none
theorem or_sub : OpR X (binaryOp .Sub) (rO G oSub) := opr_of L2.op_sub fun x y H Q h => by
  obtain ⟨m, h, a, b, R, ra, rb, q⟩ := h
  cases a with
  | int i =>
    cases b with
    | int j => exact ⟨i, j, ra, rb, q m H _ (.refl m) R rfl⟩
    | sym k a c => exact ⟨i, _, ra, rb, q m H _ (.refl m) R (by
        show V.int (i - (a * G.ρ k + c)) = V.int (-a * G.ρ k + (i - c))
        rw [Int.neg_mul]
        exact congrArg V.int (by omega))⟩
    | _ => exact q.elim
  | sym k a c =>
    cases b with
    | int j => exact ⟨_, j, ra, rb, q m H _ (.refl m) R (by
        show V.int (a * G.ρ k + c - j) = V.int (a * G.ρ k + (c - j))
        exact congrArg V.int (by omega))⟩
    | _ => exact q.elim
  | _ => exact q.elim
def reps : Nat → List W → List W
  | 0, _ => []
  | n + 1, xs => xs ++ reps n xs
def oMul : Op2 := fun x y h => match x, y with
  | .int i, .int j => (match bitsOk i j with
    | true => some (.int (i * j), h)
    | false => none)
  | .int i, .sym k a c => (match shortI i with
    | true => some (.sym k (i * a) (i * c), h)
    | false => none)
  | .ref l, .int n => (match h.get l with
    | some (.lst xs) => (match Nat.ble n.natAbs 1000000 && Nat.ble (xs.length * n.toNat) 1000000 with
      | true => some (.ref h.n, h.new (.lst (reps n.toNat xs)))
      | false => none)
    | _ => none)
  | _, _ => none
theorem reps_vrs {m : Mp} {ws : List W} {vs : List V} (r : VRs G m ws vs) : ∀ n, VRs G m (reps n ws) (List.replicate n vs).flatten
  | 0 => .nil
  | n + 1 => vrs_apps r (reps_vrs r n)
theorem or_mul : OpR X (binaryOp .Mult) (rO G oMul) := opr_of ((L2.op_mulW.or L2.op_mul).or L2.op_rep) fun x y H Q h => by
  obtain ⟨m, h, a, b, R, ra, rb, q⟩ := h
  cases a with
  | int i =>
    cases b with
    | int j =>
      unfold oMul at q
      dsimp only at q
      cases e : bitsOk i j with
      | false =>
        rw [e] at q
        exact q.elim
      | true =>
        rw [e] at q
        exact .inl (.inl ⟨i, j, ra, rb, (show i.natAbs.log2 + j.natAbs.log2 < 1000000 by simpa [bitsOk] using e), q m H _ (.refl m) R rfl⟩)
    | sym k a c =>
      unfold oMul at q
      dsimp only at q
      cases e : shortI i with
      | false =>
        rw [e] at q
        exact q.elim
      | true =>
        rw [e] at q
        have lt : i.natAbs < 18446744073709551616 := by simpa [shortI] using e
        exact .inl (.inr ⟨i, _, ra, rb, .inl (by constructor <;> omega), q m H _ (.refl m) R (by
          show V.int (i * (a * G.ρ k + c)) = V.int (i * a * G.ρ k + i * c)
          rw [Int.mul_add, Int.mul_assoc])⟩)
    | _ => exact q.elim
  | ref l =>
    cases b with
    | int n =>
      obtain ⟨a, ha, rfl⟩ := ra
      unfold oMul at q
      dsimp only at q
      cases e1 : h.get l with
      | none =>
        rw [e1] at q
        exact q.elim
      | some c1 =>
        rw [e1] at q
        cases c1 with
        | lst xs =>
          dsimp only at q
          cases e3 : Nat.ble n.natAbs 1000000 && Nat.ble (xs.length * n.toNat) 1000000 with
          | false =>
            rw [e3] at q
            exact q.elim
          | true =>
            rw [e3] at q
            obtain ⟨b1, b2⟩ := Bool.and_eq_true_iff.mp e3
            have n1 : n.natAbs ≤ 1000000 := Nat.le_of_ble_eq_true b1
            obtain ⟨_, o1, vs, r1, rfl⟩ := R.see ha e1
            exact .inr ⟨a, n, vs, rfl, rb, o1, by omega, by omega, by rw [← vrs_len r1]; exact line_ok b2, fun p np => new_sat (c := .lst (reps n.toNat xs)) R np ⟨_, (reps_vrs r1 n.toNat).mono (m.le_snoc p), rfl⟩ q⟩
        | _ => exact q.elim
    | _ => exact q.elim
  | _ => exact q.elim
def oFdiv : Op2 := fun x y h => match x, y with
  | .int i, .int j => (match ilt 0 j && Nat.blt j.natAbs.log2 9000 with
    | true => some (.int (i / j), h)
    | false => none)
  | _, _ => none
theorem or_fdiv : OpR X (binaryOp .FloorDiv) (rO G oFdiv) := opr_of L2.op_fdivW fun x y H Q h => by
  obtain ⟨m, h, a, b, R, ra, rb, q⟩ := h
  cases a with
  | int i =>
    cases b with
    | int j =>
      unfold oFdiv at q
      dsimp only at q
      cases e : ilt 0 j && Nat.blt j.natAbs.log2 9000 with
      | false =>
        rw [e] at q
        exact q.elim
      | true =>
        rw [e] at q
        obtain ⟨b1, b2⟩ := Bool.and_eq_true_iff.mp e
        rw [ilt_iff, decide_eq_true_iff] at b1
        exact ⟨i, j, ra, rb, ⟨b1, by simpa using b2⟩, q m H _ (.refl m) R rfl⟩
    | _ => exact q.elim
  | _ => exact q.elim
def oMod : Op2 := fun x y h => match x, y with
  | .int i, .int j => (match ilt 0 j with
    | true => some (.int (i % j), h)
    | false => none)
  | _, _ => none
theorem or_mod : OpR X (binaryOp .Mod) (rO G oMod) := opr_of L2.op_mod fun x y H Q h => by
  obtain ⟨m, h, a, b, R, ra, rb, q⟩ := h
  cases a with
  | int i =>
    cases b with
    | int j =>
      unfold oMod at q
      dsimp only at q
      cases e : ilt 0 j with
      | false =>
        rw [e] at q
        exact q.elim
      | true =>
        rw [e] at q
        rw [ilt_iff, decide_eq_true_iff] at e
        exact ⟨i, j, ra, rb, e, q m H _ (.refl m) R rfl⟩
    | _ => exact q.elim
  | _ => exact q.elim
def oPow : Op2 := fun x y h => match x, y with
  | .int i, .int j => (match ile 0 j && ile ((Builtin.Int.intBits i : Int) * j) 134217728 with
    | true => some (.int (i ^ j.toNat), h)
    | false => none)
  | _, _ => none
theorem or_pow : OpR X (binaryOp .Pow) (rO G oPow) := opr_of (L2.opI (C := fun i j => 0 ≤ j ∧ (Builtin.Int.intBits i : Int) * j ≤ 2 ^ 27) (g := fun i j => i ^ j.toNat) fun i j _ _ _ _ _ hc q => PyProof.Rows.pow_int hc.1 hc.2 q) fun x y H Q h => by
  obtain ⟨m, h, a, b, R, ra, rb, q⟩ := h
  cases a with
  | int i =>
    cases b with
    | int j =>
      unfold oPow at q
      dsimp only at q
      cases e : ile 0 j && ile ((Builtin.Int.intBits i : Int) * j) 134217728 with
      | false =>
        rw [e] at q
        exact q.elim
      | true =>
        rw [e] at q
        obtain ⟨b1, b2⟩ := Bool.and_eq_true_iff.mp e
        rw [ile_iff, decide_eq_true_iff] at b1 b2
        exact ⟨i, j, ra, rb, ⟨b1, b2⟩, q m H _ (.refl m) R rfl⟩
    | _ => exact q.elim
  | _ => exact q.elim
def oNeg : Op1 := fun x h => match x with
  | .int i => some (.int (-i), h)
  | .sym k a c => some (.sym k (-a) (-c), h)
  | _ => none
theorem ur_neg : L2.UnR X (unaryOp .USub) (rU G oNeg) := unr_of L2.un_neg fun x H Q h => by
  obtain ⟨m, h, a, R, ra, q⟩ := h
  cases a with
  | int i => exact ⟨i, ra, q m H _ (.refl m) R rfl⟩
  | sym k a c => exact ⟨_, ra, q m H _ (.refl m) R (by
      show V.int (-(a * G.ρ k + c)) = V.int (-a * G.ρ k + -c)
      rw [Int.neg_mul]
      exact congrArg V.int (by omega))⟩
  | _ => exact q.elim
/-! ### order of numbers -/
def hiI (a c : Int) : Int := match a with
  | .ofNat _ => a * 1000000000000000000000000000000 + c
  | _ => c
def loI (a c : Int) : Int := match a with
  | .ofNat _ => c
  | _ => a * 1000000000000000000000000000000 + c
theorem hi_ok (k : Nat) (a c : Int) : a * G.ρ k + c ≤ hiI a c := by
  obtain ⟨h0, h1⟩ := G.ρ0 k
  cases a with
  | ofNat n =>
    have := Int.mul_le_mul_of_nonneg_left h1 (Int.natCast_nonneg n)
    show Int.ofNat n * G.ρ k + c ≤ Int.ofNat n * 1000000000000000000000000000000 + c
    exact Int.add_le_add_right this c
  | negSucc n =>
    have : Int.negSucc n * G.ρ k ≤ 0 := Int.mul_nonpos_of_nonpos_of_nonneg (Int.le_of_lt (Int.negSucc_lt_zero n)) h0
    show Int.negSucc n * G.ρ k + c ≤ c
    omega
theorem lo_ok (k : Nat) (a c : Int) : loI a c ≤ a * G.ρ k + c := by
  obtain ⟨h0, h1⟩ := G.ρ0 k
  cases a with
  | ofNat n =>
    have : 0 ≤ Int.ofNat n * G.ρ k := Int.mul_nonneg (Int.natCast_nonneg n) h0
    show c ≤ Int.ofNat n * G.ρ k + c
    omega
  | negSucc n =>
    have := Int.mul_le_mul_of_nonpos_left (Int.le_of_lt (Int.negSucc_lt_zero n)) h1
    show Int.negSucc n * 1000000000000000000000000000000 + c ≤ Int.negSucc n * G.ρ k + c
    exact Int.add_le_add_right this c
def wlt : W → W → Option Bool
  | .int i, .int j => some (ilt i j)
  | .sym _ a c, .int j => if ilt (hiI a c) j then some true else if ile j (loI a c) then some false else none
  | .int i, .sym _ a c => if ilt i (loI a c) then some true else if ile (hiI a c) i then some false else none
  | _, _ => none
theorem wlt_ok {m : Mp} {a b : W} {t : Bool} {x y : V} (h : wlt a b = some t) (ra : VR G m a x) (rb : VR G m b y) : ∃ i j, x = .int i ∧ y = .int j ∧ t = decide (i < j) := by
  cases a with
  | int i =>
    cases b with
    | int j =>
      cases h
      exact ⟨i, j, ra, rb, ilt_iff i j⟩
    | sym k a c =>
      refine ⟨i, _, ra, rb, ?_⟩
      have h1 := hi_ok (G := G) k a c
      have h2 := lo_ok (G := G) k a c
      unfold wlt at h
      dsimp only at h
      rw [ilt_iff, ile_iff] at h
      split at h
      · rename_i e
        cases h
        have e' := of_decide_eq_true e
        exact (decide_eq_true (by omega)).symm
      · split at h
        · rename_i e
          cases h
          have e' := of_decide_eq_true e
          exact (decide_eq_false (by omega)).symm
        · cases h
    | _ => cases h
  | sym k a c =>
    cases b with
    | int j =>
      refine ⟨_, j, ra, rb, ?_⟩
      have h1 := hi_ok (G := G) k a c
      have h2 := lo_ok (G := G) k a c
      unfold wlt at h
      dsimp only at h
      rw [ilt_iff, ile_iff] at h
      split at h
      · rename_i e
        cases h
        have e' := of_decide_eq_true e
        exact (decide_eq_true (by omega)).symm
      · split at h
        · rename_i e
          cases h
          have e' := of_decide_eq_true e
          exact (decide_eq_false (by omega)).symm
        · cases h
    | _ => cases h
  | _ => cases h
def oLt : Op2 := fun x y h => match wlt x y with
  | some b => some (.bl b, h)
  | none => none
def oGt : Op2 := fun x y h => match wlt y x with
  | some b => some (.bl b, h)
  | none => none
def oLe : Op2 := fun x y h => match wlt y x with
  | some b => some (.bl (!b), h)
  | none => none
def oGe : Op2 := fun x y h => match wlt x y with
  | some b => some (.bl (!b), h)
  | none => none
theorem not_lt_dec (i j : Int) : (!decide (i < j)) = decide (j ≤ i) := by
  by_cases h : i < j
  · rw [decide_eq_true h, decide_eq_false (by omega)]
    rfl
  · rw [decide_eq_false h, decide_eq_true (by omega)]
    rfl
theorem or_lt : OpR X (compareOp .Lt) (rO G oLt) := opr_of L2.op_lt fun x y H Q h => by
  obtain ⟨m, h, a, b, R, ra, rb, q⟩ := h
  unfold oLt at q
  cases e : wlt a b with
  | none =>
    rw [e] at q
    exact q.elim
  | some t =>
    rw [e] at q
    obtain ⟨i, j, rfl, rfl, rfl⟩ := wlt_ok e ra rb
    exact ⟨i, j, rfl, rfl, q m H _ (.refl m) R rfl⟩
theorem or_gt : OpR X (compareOp .Gt) (rO G oGt) := opr_of L2.op_gt fun x y H Q h => by
  obtain ⟨m, h, a, b, R, ra, rb, q⟩ := h
  unfold oGt at q
  cases e : wlt b a with
  | none =>
    rw [e] at q
    exact q.elim
  | some t =>
    rw [e] at q
    obtain ⟨i, j, rfl, rfl, rfl⟩ := wlt_ok e rb ra
    exact ⟨j, i, rfl, rfl, q m H _ (.refl m) R rfl⟩
theorem or_le : OpR X (compareOp .LtE) (rO G oLe) := opr_of L2.op_le fun x y H Q h => by
  obtain ⟨m, h, a, b, R, ra, rb, q⟩ := h
  unfold oLe at q
  cases e : wlt b a with
  | none =>
    rw [e] at q
    exact q.elim
  | some t =>
    rw [e] at q
    obtain ⟨i, j, rfl, rfl, rfl⟩ := wlt_ok e rb ra
    exact ⟨j, i, rfl, rfl, q m H _ (.refl m) R (congrArg V.bl (not_lt_dec i j).symm)⟩
theorem or_ge : OpR X (compareOp .GtE) (rO G oGe) := opr_of L2.op_ge fun x y H Q h => by
  obtain ⟨m, h, a, b, R, ra, rb, q⟩ := h
  unfold oGe at q
  cases e : wlt a b with
  | none =>
    rw [e] at q
    exact q.elim
  | some t =>
    rw [e] at q
    obtain ⟨i, j, rfl, rfl, rfl⟩ := wlt_ok e ra rb
    exact ⟨i, j, rfl, rfl, q m H _ (.refl m) R (congrArg V.bl (not_lt_dec i j).symm)⟩
/-! ### is -/
def oIs : Op2 := fun x y h => match x, y with
  | .bl a, .bl b => some (.bl (a == b), h)
  | .non, .non => some (.bl true, h)
  | .txt _, .non => some (.bl false, h)
  | .int _, .non => some (.bl false, h)
  | .sym _ _ _, .non => some (.bl false, h)
  | .bl _, .non => some (.bl false, h)
  | .ref _, .non => some (.bl false, h)
  | _, _ => none
def oIsNot : Op2 := fun x y h => match oIs x y h with
  | some (.bl b, h') => some (.bl (!b), h')
  | _ => none
theorem is_read {x y : V} {H : Hp} {m : Mp} {h : AH} {a b : W} {t : W} {h' : AH} (e : oIs a b h = some (t, h')) (ra : VR G m a x) (rb : VR G m b y) :
    h' = h ∧ ((∃ p q, x = .bl p ∧ y = .bl q ∧ t = .bl (decide (p = q))) ∨ (y = .non ∧ t = .bl (decide (x = .non)))) := by
  cases b with
  | bl q =>
    cases a with
    | bl p =>
      cases e
      cases ra
      cases rb
      exact ⟨rfl, .inl ⟨p, q, rfl, rfl, congrArg W.bl (by cases p <;> cases q <;> rfl)⟩⟩
    | _ => cases e
  | non =>
    cases rb
    cases a with
    | non =>
      cases e
      cases ra
      exact ⟨rfl, .inr ⟨rfl, rfl⟩⟩
    | bl p =>
      cases e
      cases ra
      exact ⟨rfl, .inr ⟨rfl, congrArg W.bl (decide_eq_false (fun z => nomatch z)).symm⟩⟩
    | int p =>
      cases e
      cases ra
      exact ⟨rfl, .inr ⟨rfl, congrArg W.bl (decide_eq_false (fun z => nomatch z)).symm⟩⟩
    | sym _ _ _ =>
      cases e
      cases ra
      exact ⟨rfl, .inr ⟨rfl, congrArg W.bl (decide_eq_false (fun z => nomatch z)).symm⟩⟩
    | txt _ =>
      cases e
      cases ra
      exact ⟨rfl, .inr ⟨rfl, congrArg W.bl (decide_eq_false (fun z => nomatch z)).symm⟩⟩
    | ref _ =>
      cases e
      obtain ⟨_, _, rfl⟩ := ra
      exact ⟨rfl, .inr ⟨rfl, congrArg W.bl (decide_eq_false (fun z => nomatch z)).symm⟩⟩
    | _ => cases e
  | _ => cases a <;> cases e
theorem or_is : OpR X (compareOp .Is) (rO G oIs) := opr_of (L2.op_isBl.or L2.op_isN) fun x y H Q h => by
  obtain ⟨m, h, a, b, R, ra, rb, q⟩ := h
  cases e : oIs a b h with
  | none =>
    rw [e] at q
    exact q.elim
  | some p =>
    obtain ⟨t, h'⟩ := p
    rw [e] at q
    obtain ⟨rfl, ⟨p, p', rfl, rfl, rfl⟩ | ⟨rfl, rfl⟩⟩ := is_read (H := H) e ra rb
    · exact .inl ⟨p, p', rfl, rfl, q m H _ (.refl m) R rfl⟩
    · exact .inr ⟨rfl, q m H _ (.refl m) R rfl⟩
theorem or_isNot : OpR X (compareOp .IsNot) (rO G oIsNot) := opr_of (L2.op_notBl.or L2.op_notN) fun x y H Q h => by
  obtain ⟨m, h, a, b, R, ra, rb, q⟩ := h
  unfold oIsNot at q
  cases e : oIs a b h with
  | none =>
    rw [e] at q
    exact q.elim
  | some p =>
    obtain ⟨t, h'⟩ := p
    rw [e] at q
    obtain ⟨rfl, ⟨p, p', rfl, rfl, rfl⟩ | ⟨rfl, rfl⟩⟩ := is_read (H := H) e ra rb
    · exact .inl ⟨p, p', rfl, rfl, q m H _ (.refl m) R rfl⟩
    · exact .inr ⟨rfl, q m H _ (.refl m) R rfl⟩
/-! ### subscripts -/
def oIx : Op2 := fun x y h => match x, y with
  | .ref l, .int i => (match h.get l with
    | some (.lst xs) => (match ixAt xs.length i with
      | some j => (match nth xs j with
        | some v => some (v, h)
        | none => none)
      | none => none)
    | some (.tup xs) => (match ixAt xs.length i with
      | some j => (match nth xs j with
        | some v => some (v, h)
        | none => none)
      | none => none)
    | _ => none)
  | .scr, .int i => (match ixAt (h.s.map W.int).length i with
    | some j => (match nth (h.s.map W.int) j with
      | some v => some (v, h)
      | none => none)
    | none => none)
  | _, _ => none
theorem vrs_ints {m : Mp} : ∀ ns : List Int, VRs G m (ns.map W.int) (ns.map V.int)
  | [] => .nil
  | _ :: r => .cons rfl (vrs_ints r)
theorem at_ok {m : Mp} {ws : List W} {vs : List V} {i : Int} {j : Nat} {w : W} (r : VRs G m ws vs) (e : ixAt ws.length i = some j) (e2 : nth ws j = some w) : ∃ v, L2.atI vs i = some v ∧ VR G m w v := by
  obtain ⟨v, h1, h2⟩ := vrs_get r (nth_get ▸ e2)
  refine ⟨v, ?_, h2⟩
  unfold L2.atI
  rw [← vrs_len r, (ixAt_n e).1]
  exact h1
theorem ix_read (hK : X.K = G.K) {x y : V} {H : Hp} {Q : VK} (h : rO G oIx x y H Q) : L2.rIxL X.K x y H Q ∨ L2.rIxT X.K x y H Q := by
  obtain ⟨m, h, a, b, R, ra, rb, q⟩ := h
  cases a with
  | ref l =>
    cases b with
    | int i =>
      obtain ⟨a, ha, rfl⟩ := ra
      cases rb
      unfold oIx at q
      dsimp only at q
      cases e1 : h.get l with
      | none =>
        rw [e1] at q
        exact q.elim
      | some c1 =>
        rw [e1] at q
        have fin : ∀ {xs : List W} {vs : List V}, VRs G m xs vs → Sat G m (fun _ _ _ => False) (VR G) (ofO (match ixAt xs.length i with
            | some j => (match nth xs j with
              | some v => some (v, h)
              | none => none)
            | none => none)) Q → ∃ v, L2.atI vs i = some v ∧ Q v H := fun {xs vs} r z => by
          cases e2 : ixAt xs.length i with
          | none =>
            rw [e2] at z
            exact z.elim
          | some j =>
            rw [e2] at z
            dsimp only at z
            cases e3 : nth xs j with
            | none =>
              rw [e3] at z
              exact z.elim
            | some w =>
              rw [e3] at z
              obtain ⟨v, h1, h2⟩ := at_ok r e2 e3
              exact ⟨v, h1, z m H v (.refl m) R h2⟩
        cases c1 with
        | lst xs =>
          obtain ⟨_, o1, vs, r1, rfl⟩ := R.see ha e1
          obtain ⟨v, h1, h2⟩ := fin r1 q
          exact .inl ⟨a, vs, i, v, rfl, rfl, .inl (.inl o1), h1, h2⟩
        | tup xs =>
          obtain ⟨_, o1, vs, r1, rfl⟩ := R.see ha e1
          obtain ⟨v, h1, h2⟩ := fin r1 q
          exact .inr ⟨a, vs, i, v, rfl, rfl, .inl (.inl o1), h1, h2⟩
        | _ => exact q.elim
    | _ => exact q.elim
  | scr =>
    cases b with
    | int i =>
      cases ra
      cases rb
      unfold oIx at q
      dsimp only at q
      cases e2 : ixAt (h.s.map W.int).length i with
      | none =>
        rw [e2] at q
        exact q.elim
      | some j =>
        rw [e2] at q
        dsimp only at q
        cases e3 : nth (h.s.map W.int) j with
        | none =>
          rw [e3] at q
          exact q.elim
        | some w =>
          rw [e3] at q
          obtain ⟨v, h1, h2⟩ := at_ok (vrs_ints (m := m) h.s) e2 e3
          exact .inl ⟨G.sa, _, i, v, rfl, rfl, hK ▸ R.scr.sq, h1, q m H v (.refl m) R h2⟩
    | _ => exact q.elim
  | _ => exact q.elim
theorem ixr_or {r r' : R2} (h : L2.IxR X r) (h' : L2.IxR X r') : L2.IxR X (fun x y H Q => r x y H Q ∨ r' x y H Q) := fun a b pins s σ H x y v u Q I rx ry q e => q.elim (fun z => h a b pins s σ H x y v u Q I rx ry z e) (fun z => h' a b pins s σ H x y v u Q I rx ry z e)
theorem pm_ix {a b : Expr} {ga gb : EM} (ha : PE X a (tE G Z ga)) (hb : PE X b (tE G Z gb)) (hK : X.K = G.K := by rfl) (hs : L2.PlainIx b := by exact fun _ _ => rfl) : PE X (.Subscript a b pos) (tE G Z (eOp2 oIx ga gb)) :=
  pe_of (L2.pe_ix (r := rO G oIx) (ixr_of (ixr_or L2.ix_list L2.ix_tup) fun x y H Q h => ix_read hK h) ha hb hs) fun _ _ _ => op2_read
/-- xs[i] = v -/
def oSetIx (o i v : W) (h : AH) : Option AH := match o, i with
  | .ref l, .int k => (match h.get l with
    | some (.lst xs) => (match ixAt xs.length k with
      | some j => some (h.put l (.lst (xs.set j v)))
      | none => none)
    | _ => none)
  | _, _ => none
theorem vrs_set {m : Mp} {w : W} {v : V} (r : VR G m w v) : ∀ {ws : List W} {vs : List V} (i : Nat), VRs G m ws vs → VRs G m (ws.set i w) (vs.set i v)
  | _, _, _, .nil => .nil
  | _, _, 0, .cons _ t => .cons r t
  | _, _, i + 1, .cons q t => .cons q (vrs_set r i t)
theorem ps_setIx : L2.PSet X (rS G oSetIx) := pset_of L2.set_list fun o i v H Q h => by
  obtain ⟨m, h, a, b, c, h', R, ra, rb, rc, e, q⟩ := h
  cases a with
  | ref l =>
    cases b with
    | int k =>
      obtain ⟨a, ha, rfl⟩ := ra
      cases rb
      unfold oSetIx at e
      dsimp only at e
      cases e1 : h.get l with
      | none =>
        rw [e1] at e
        cases e
      | some c1 =>
        rw [e1] at e
        cases c1 with
        | lst xs =>
          dsimp only at e
          cases e2 : ixAt xs.length k with
          | none =>
            rw [e2] at e
            cases e
          | some j =>
            rw [e2] at e
            cases e
            obtain ⟨_, o1, vs, r1, rfl⟩ := R.see ha e1
            refine ⟨a, vs, k, j, rfl, rfl, o1, by rw [← vrs_len r1]; exact (ixAt_n e2).1, q m _ (.refl m) (R.put (c' := .lst (xs.set j c)) ha e1 rfl ⟨_, vrs_set rc j r1, rfl⟩)⟩
        | _ => cases e
    | _ => cases e
  | _ => cases e
/-! ### slices -/
def cut (n : Nat) (d : Nat) : Option Int → Nat
  | none => d
  | some v => match v with
    | .ofNat k => min k n
    | .negSucc k => n - (k + 1)
theorem cut_ok (n d : Nat) : ∀ o, cut n d o = HT.sIx n d o
  | none => rfl
  | some (.ofNat k) => by
    show min k n = if (k : Int) < 0 then ((k : Int) + n).toNat else min (k : Int).toNat n
    rw [if_neg (by omega)]
    rfl
  | some (.negSucc k) => by
    show n - (k + 1) = if Int.negSucc k < 0 then (Int.negSucc k + n).toNat else min (Int.negSucc k).toNat n
    rw [if_pos (Int.negSucc_lt_zero k)]
    omega
def cutW (xs : List W) (lo hi : Option Int) : List W := (xs.drop (cut xs.length 0 lo)).take (cut xs.length xs.length hi - cut xs.length 0 lo)
/-- xs[lo:hi]; lo, hi written none or ints -/
def oCut (x : W) (lo hi : Option Int) (h : AH) : Option (W × AH) := match x with
  | .ref l => (match h.get l with
    | some (.lst xs) => some (.ref h.n, h.new (.lst (cutW xs lo hi)))
    | some (.tup xs) => (match Nat.beq (cut xs.length 0 lo) 0 && Nat.beq (cut xs.length xs.length hi) xs.length with
      | true => none
      | false => some (.ref h.n, h.new (.tup (cutW xs lo hi))))
    | _ => none)
  | .scr => some (.ref h.n, h.new (.lst (cutW (h.s.map W.int) lo hi)))
  | _ => none
abbrev OM := Sl → AH → Res (Option Int)
def oNone : OM := fun _ h => .ok none h
def oSome (e : EM) : OM := fun σ h => (e σ h).bind fun x h1 => match x with
  | .int i => .ok (some i) h1
  | _ => .no
def eCut (a : EM) (lo hi : OM) : EM := fun σ h => (a σ h).bind fun x h1 => (lo σ h1).bind fun l h2 => (hi σ h2).bind fun u h3 => ofO (oCut x l u h3)
abbrev RO : Mp → Option Int → Option Int → Prop := fun _ a b => a = b
theorem pmo_none : L2.PO X none (tX G Z RO oNone) := ⟨fun pins s σ H Q I h => L2.po_none.run pins s σ H Q I (by
  obtain ⟨m, h, s, R, S, q⟩ := h
  exact q m H _ (.refl m) R rfl)⟩
theorem pmo_some {e : Expr} {g : EM} (he : PE X e (tE G Z g)) : L2.PO X (some e) (tX G Z RO (oSome g)) := ⟨fun pins s σ H Q I h => (L2.po_some he).run pins s σ H Q I (by
  obtain ⟨m, h, s, R, S, q⟩ := h
  refine ⟨m, h, s, R, S, (Sat.bind (R := VR G) q).imp fun v H1 z => ?_⟩
  obtain ⟨m1, w, h1, l1, R1, ra, q1⟩ := z
  cases w with
  | int i => exact ⟨i, ra, q1 m1 H1 _ (.refl m1) R1 rfl⟩
  | _ => exact q1.elim)⟩
theorem vrs_cut {m : Mp} {ws : List W} {vs : List V} (r : VRs G m ws vs) (lo hi : Option Int) : VRs G m (cutW ws lo hi) (L2.cutV vs lo hi) := by
  unfold cutW L2.cutV
  rw [vrs_len r, cut_ok, cut_ok]
  exact vrs_take _ (vrs_drop _ r)
where
  vrs_take {m : Mp} : ∀ {ws : List W} {vs : List V} (n : Nat), VRs G m ws vs → VRs G m (ws.take n) (vs.take n)
    | _, _, 0, _ => .nil
    | _, _, _ + 1, .nil => .nil
    | _, _, n + 1, .cons r t => .cons r (vrs_take n t)
  vrs_drop {m : Mp} : ∀ {ws : List W} {vs : List V} (n : Nat), VRs G m ws vs → VRs G m (ws.drop n) (vs.drop n)
    | _, _, 0, r => r
    | _, _, _ + 1, .nil => .nil
    | _, _, n + 1, .cons _ t => vrs_drop n t
theorem pm_cut {e : Expr} {lo hi : Option Expr} {p2 : Pos} {g : EM} {gl gh : OM} (he : PE X e (tE G Z g)) (hl : L2.PO X lo (tX G Z RO gl)) (hh : L2.PO X hi (tX G Z RO gh)) (hK : X.K = G.K := by rfl) : PE X (.Subscript e (.Slice lo hi none p2) pos) (tE G Z (eCut g gl gh)) :=
  pe_of (L2.pe_slice (L2.sl_list.or L2.sl_tup) he hl hh) fun σ H Q h => by
    obtain ⟨m, h, s, R, S, q⟩ := h
    refine ⟨m, h, s, R, S, (Sat.bind (R := VR G) q).imp fun v H1 z => ?_⟩
    obtain ⟨m1, w, h1, l1, R1, ra, q1⟩ := z
    refine ⟨m1, h1, s, R1, S.mono l1, (Sat.bind (R := RO) q1).imp fun a H2 z => ?_⟩
    obtain ⟨m2, a', h2, l2, R2, rfl, q2⟩ := z
    refine ⟨m2, h2, s, R2, S.mono (l1.trans l2), (Sat.bind (R := RO) q2).imp fun b H3 z => ?_⟩
    obtain ⟨m3, b', h3, l3, R3, rfl, q3⟩ := z
    have ra3 := ra.mono (l2.trans l3)
    cases w with
    | ref l =>
      obtain ⟨ad, ha, rfl⟩ := ra3
      unfold oCut at q3
      dsimp only at q3
      cases e1 : h3.get l with
      | none =>
        rw [e1] at q3
        exact q3.elim
      | some c1 =>
        rw [e1] at q3
        cases c1 with
        | lst xs =>
          obtain ⟨_, o1, vs, r1, rfl⟩ := R3.see ha e1
          exact .inl ⟨ad, vs, rfl, .inl (.inl o1), fun p np => new_sat (c := .lst (cutW xs a' b')) R3 np ⟨_, (vrs_cut r1 a' b').mono (m3.le_snoc p), rfl⟩ q3⟩
        | tup xs =>
          obtain ⟨_, o1, vs, r1, rfl⟩ := R3.see ha e1
          dsimp only at q3
          cases e2 : Nat.beq (cut xs.length 0 a') 0 && Nat.beq (cut xs.length xs.length b') xs.length with
          | true =>
            rw [e2] at q3
            exact q3.elim
          | false =>
            rw [e2] at q3
            refine .inr ⟨ad, vs, rfl, .inl (.inl o1), fun z => ?_, fun p np => new_sat (c := .tup (cutW xs a' b')) R3 np ⟨_, (vrs_cut r1 a' b').mono (m3.le_snoc p), rfl⟩ q3⟩
            rw [← vrs_len r1, ← cut_ok, ← cut_ok] at z
            rw [z.1, z.2] at e2
            simp at e2
        | _ => exact q3.elim
    | scr =>
      cases ra3
      exact .inl ⟨G.sa, _, rfl, hK ▸ R3.scr.sq, fun p np => new_sat (c := .lst (cutW (h3.s.map W.int) a' b')) R3 np ⟨_, (vrs_cut (vrs_ints h3.s) a' b'), rfl⟩ q3⟩
    | _ => exact q3.elim
end
end Pm
/-! PmBi: built-in functions and methods. -/
namespace Pm
open PySem PySem.Spec
open L2 (V Hp HO Cx Inv PE PT PA PS PSs PW TE TT TA TS St VK XK WX Ends RelV Vals upd upd_same upd_ne Takes R2 OpR CallR MtR tOp tVar Vis Gl Room Binds)
section
variable {X : Cx} {G : Gx} {Z : WX} {pos : Pos}
theorem kit_tab : ∀ a b : Ty, L2.kitB a.nm b.nm = some (a.isT b) := by
  intro a b
  cases a <;> cases b <;> decide +kernel
/-! ### calls of built-ins -/
theorem pm_callB {id : String} {f : OpN} {g : EM} {gs : List EM} {x : Str} {p : Pos} {e : Expr} {es : List Expr} (hc : CallR X (.builtin id) (rN G f)) (hg : Gl X x) (hm : X.mg x = none) (hv : bootBuiltins x = some (.builtin id)) (ha : PA X (e :: es) (tA G Z (evs (g :: gs))))
    (hn : x ≠ "__name__" := by decide) (hdb : (x == ("__debug__" : Str)) = false := by decide)
    (he : starEach (e :: es) X.env = (false, eval e X.env) :: starEach es X.env := by rfl) (hpl : (backTo pos (starEach es X.env)).any (·.1) = false := by rfl) : PE X (.Call (.Name x p) (e :: es) [] pos) (tE G Z (eOpN f (g :: gs))) :=
  pe_of (L2.pe_callB hc hg hm hv ha hn hdb he hpl) fun σ H Q h => opN_read h
theorem pm_callTy {T : String} {f : OpN} {g : EM} {gs : List EM} {x : Str} {p : Pos} {e : Expr} {es : List Expr} (hc : CallR X (.type T) (rN G f)) (hg : Gl X x) (hm : X.mg x = none) (hv : bootBuiltins x = some (.type T)) (ha : PA X (e :: es) (tA G Z (evs (g :: gs))))
    (hn : x ≠ "__name__" := by decide) (hdb : (x == ("__debug__" : Str)) = false := by decide)
    (he : starEach (e :: es) X.env = (false, eval e X.env) :: starEach es X.env := by rfl) (hpl : (backTo pos (starEach es X.env)).any (·.1) = false := by rfl) : PE X (.Call (.Name x p) (e :: es) [] pos) (tE G Z (eOpN f (g :: gs))) :=
  pe_of (L2.pe_callTy hc hg hm hv ha hn hdb he hpl) fun σ H Q h => opN_read h
/-! ### sequences as they are read -/
def items (h : AH) : W → Option (List W)
  | .ref l => (match h.get l with
    | some (.lst xs) => some xs
    | some (.tup xs) => some xs
    | _ => none)
  | .scr => some (h.s.map W.int)
  | _ => none
theorem items_ok (hK : X.K = G.K) {m : Mp} {h : AH} {H : Hp} (R : Rel G m h H) {w : W} {v : V} (r : VR G m w v) {ws : List W} (e : items h w = some ws) : ∃ a vs, v = .ref a ∧ VRs G m ws vs ∧ (L2.SqL X.K H a vs ∨ L2.SqT X.K H a vs) := by
  unfold items at e
  cases w with
  | ref l =>
    obtain ⟨a, ha, rfl⟩ := r
    dsimp only at e
    cases e1 : h.get l with
    | none =>
      rw [e1] at e
      cases e
    | some c =>
      rw [e1] at e
      cases c with
      | lst xs =>
        cases e
        obtain ⟨_, o1, vs, r1, rfl⟩ := R.see ha e1
        exact ⟨a, vs, rfl, r1, .inl (.inl (.inl o1))⟩
      | tup xs =>
        cases e
        obtain ⟨_, o1, vs, r1, rfl⟩ := R.see ha e1
        exact ⟨a, vs, rfl, r1, .inr (.inl (.inl o1))⟩
      | _ => cases e
  | scr =>
    cases e
    cases r
    exact ⟨G.sa, _, rfl, vrs_ints _, .inl (hK ▸ R.scr.sq)⟩
  | _ => cases e
/-! ### len -/
def oLen : OpN := fun xs h => match xs with
  | [x] => (match items h x with
    | some ys => some (.int ys.length, h)
    | none => none)
  | _ => none
theorem cr_len (hK : X.K = G.K := by rfl) : CallR X (.builtin "len") (rN G oLen) := callr_of L2.call_len_seq fun xs H Q h => by
  obtain ⟨m, h, as, R, rs, q⟩ := h
  cases rs with
  | nil => exact q.elim
  | cons r t =>
    cases t with
    | cons _ _ => exact q.elim
    | nil =>
      rename_i w v
      unfold oLen at q
      dsimp only at q
      cases e : items h w with
      | none =>
        rw [e] at q
        exact q.elim
      | some ws =>
        rw [e] at q
        obtain ⟨a, vs, rfl, rv, hq⟩ := items_ok hK R r e
        exact ⟨a, vs, rfl, hq, q m H _ (.refl m) R (by rw [vrs_len rv]; exact rfl)⟩
/-! ### list, tuple -/
def oList : OpN := fun xs h => match xs with
  | [x] => (match items h x with
    | some ys => some (.ref h.n, h.new (.lst ys))
    | none => none)
  | _ => none
theorem cr_list (hK : X.K = G.K := by rfl) : CallR X (.type "list") (rN G oList) := callr_of L2.call_list_of fun xs H Q h => by
  obtain ⟨m, h, as, R, rs, q⟩ := h
  cases rs with
  | nil => exact q.elim
  | cons r t =>
    cases t with
    | cons _ _ => exact q.elim
    | nil =>
      rename_i w v
      unfold oList at q
      dsimp only at q
      cases e : items h w with
      | none =>
        rw [e] at q
        exact q.elim
      | some ws =>
        rw [e] at q
        obtain ⟨a, vs, rfl, rv, hq⟩ := items_ok hK R r e
        exact ⟨a, vs, rfl, hq, fun p np => new_sat (c := .lst ws) R np ⟨_, rv.mono (m.le_snoc p), rfl⟩ q⟩
/-! ### int, max, min -/
def wint : W → Option Int
  | .int i => some i
  | _ => none
def oInt : OpN := fun xs h => match xs with
  | [.int i] => some (.int i, h)
  | [.sym k a c] => some (.sym k a c, h)
  | [.bl true] => some (.int 1, h)
  | [.bl false] => some (.int 0, h)
  | _ => none
theorem cr_int : CallR X (.type "int") (rN G oInt) := callr_of L2.call_int1 fun xs H Q h => by
  obtain ⟨m, h, as, R, rs, q⟩ := h
  cases rs with
  | nil => exact q.elim
  | @cons w v _ _ r t =>
    cases t with
    | cons _ _ => cases w with
      | bl b => cases b <;> exact q.elim
      | _ => exact q.elim
    | nil =>
      cases w with
      | int i =>
        cases r
        exact .inl ⟨i, rfl, q m H _ (.refl m) R rfl⟩
      | sym k a c =>
        cases r
        exact .inl ⟨_, rfl, q m H _ (.refl m) R rfl⟩
      | bl b =>
        cases r
        cases b with
        | true => exact .inr ⟨true, rfl, q m H _ (.refl m) R rfl⟩
        | false => exact .inr ⟨false, rfl, q m H _ (.refl m) R rfl⟩
      | _ => exact q.elim
def oMax2 : OpN := fun xs h => match xs with
  | [.int i, .int j] => some (.int (match ilt i j with | true => j | false => i), h)
  | _ => none
def oMin2 : OpN := fun xs h => match xs with
  | [.int i, .int j] => some (.int (match ilt j i with | true => j | false => i), h)
  | _ => none
theorem two_read {f : OpN} {xs : List V} {H : Hp} {Q : VK} (hf : ∀ as h r, f as h = some r → ∃ i j, as = [.int i, .int j]) (h : rN G f xs H Q) : ∃ m h i j, Rel G m h H ∧ xs = [.int i, .int j] ∧ Sat G m (fun _ _ _ => False) (VR G) (ofO (f [.int i, .int j] h)) Q := by
  obtain ⟨m, h, as, R, rs, q⟩ := h
  cases e : f as h with
  | none =>
    rw [e] at q
    exact q.elim
  | some r =>
    obtain ⟨i, j, rfl⟩ := hf as h r e
    cases rs with
    | cons r1 t =>
      cases t with
      | cons r2 t =>
        cases t
        cases r1
        cases r2
        exact ⟨m, h, i, j, R, rfl, q⟩
theorem cr_max2 (hc : X.calm = true) : CallR X (.builtin "max") (rN G oMax2) := callr_of (L2.call_max2 hc) fun xs H Q h => by
  obtain ⟨m, h, i, j, R, rfl, q⟩ := two_read (f := oMax2) (fun as h r e => by
    unfold oMax2 at e
    split at e
    · exact ⟨_, _, rfl⟩
    · cases e) h
  refine ⟨i, j, rfl, q m H _ (.refl m) R ?_⟩
  rw [ilt_iff]
  by_cases z : i < j
  · rw [decide_eq_true z, if_pos z]; exact rfl
  · rw [decide_eq_false z, if_neg z]; exact rfl
theorem cr_min2 (hc : X.calm = true) : CallR X (.builtin "min") (rN G oMin2) := callr_of (L2.call_min2 hc) fun xs H Q h => by
  obtain ⟨m, h, i, j, R, rfl, q⟩ := two_read (f := oMin2) (fun as h r e => by
    unfold oMin2 at e
    split at e
    · exact ⟨_, _, rfl⟩
    · cases e) h
  refine ⟨i, j, rfl, q m H _ (.refl m) R ?_⟩
  rw [ilt_iff]
  by_cases z : j < i
  · rw [decide_eq_true z, if_pos z]; exact rfl
  · rw [decide_eq_false z, if_neg z]; exact rfl
/-! ### isinstance, none of exceptions -/
def kind (h : AH) : W → Option Ty
  | .non => some .non
  | .bl _ => some .bool
  | .int _ => some .int
  | .sym _ _ _ => some .int
  | .txt _ => some .str
  | .scr => some .list
  | .ref l => (match h.get l with
    | some (.lst _) => some .list
    | some (.tup _) => some .tuple
    | some (.dct _) => some .dict
    | some (.set _) => some .set
    | _ => none)
  | _ => none
theorem kind_ok (hK : X.K = G.K) {m : Mp} {h : AH} {H : Hp} (R : Rel G m h H) {w : W} {v : V} (r : VR G m w v) {t : Ty} (e : kind h w = some t) : L2.TyX X.K H v (.type t.nm) := by
  unfold kind at e
  cases w with
  | non => cases e; cases r; exact .base .non
  | bl b => cases e; cases r; exact .base (.bl b)
  | int b => cases e; cases r; exact .base (.int b)
  | sym k a c => cases e; cases r; exact .base (.int _)
  | txt b => cases e; cases r; exact .base (.str _)
  | scr =>
    cases e; cases r
    rcases R.scr with ⟨ob, q⟩ | (q | q)
    · exact .base (.frz q)
    · rcases q with q | ⟨ob, q⟩ <;> cases q
    · obtain ⟨o, its, n, e1, e2, _⟩ := q
      exact .kList (hK ▸ e1) e2
  | ref l =>
    obtain ⟨a, ha, rfl⟩ := r
    dsimp only at e
    cases e1 : h.get l with
    | none =>
      rw [e1] at e
      cases e
    | some c =>
      rw [e1] at e
      cases c with
      | lst xs =>
        cases e
        obtain ⟨_, o1, vs, r1, rfl⟩ := R.see ha e1
        exact .base (.lst o1)
      | tup xs =>
        cases e
        obtain ⟨_, o1, vs, r1, rfl⟩ := R.see ha e1
        exact .base (.tup o1)
      | dct xs =>
        cases e
        obtain ⟨_, o1, vs, r1, rfl⟩ := R.see ha e1
        exact .base (.dK o1)
      | set xs =>
        cases e
        obtain ⟨_, o1, r1, rfl⟩ := R.see ha e1
        exact .set o1
      | _ => cases e
  | _ => cases e
def oIsi : OpN := fun xs h => match xs with
  | [x, .ty t] => (match kind h x with
    | some k => some (.bl (k.isT t), h)
    | none => none)
  | _ => none
theorem cr_isi (hK : X.K = G.K := by rfl) : CallR X (.builtin "isinstance") (rN G oIsi) := callr_of L2.call_isi fun xs H Q h => by
  obtain ⟨m, h, as, R, rs, q⟩ := h
  cases rs with
  | nil => exact q.elim
  | @cons w v _ _ r t =>
    cases t with
    | nil => exact q.elim
    | @cons w2 v2 _ _ r2 t =>
      cases t with
      | cons _ _ => cases w2 <;> exact q.elim
      | nil =>
        cases w2 with
        | ty t =>
          cases r2
          unfold oIsi at q
          dsimp only at q
          cases e : kind h w with
          | none =>
            rw [e] at q
            exact q.elim
          | some k =>
            rw [e] at q
            exact ⟨v, _, _, _, _, rfl, .ty t.nm, kind_ok hK R r e, L2.kit_ty (kit_tab k t), q m H _ (.refl m) R rfl⟩
        | _ => exact q.elim
/-! ### i.bit_length() -/
def blen (i : Int) : Int := (Builtin.Int.intBits i : Nat)
def oBits : Op1 := fun x h => match x with
  | .int i => some (.int (blen i), h)
  | _ => none
theorem pm_bits {o : Expr} {g : EM} {apos : Pos} (ho : PE X o (tE G Z g)) (hbase : attributeBase o "bit_length" X.env (eval o X.env) = eval o X.env := by rfl) (hline : (apos.endLine == pos.line) = true := by rfl) : PE X (.Call (.Attribute o "bit_length" apos) [] [] pos) (tE G Z (eOp1 oBits g)) :=
  pe_of (L2.pe_bits ho hbase hline) fun σ H Q h => by
    obtain ⟨m, h, s, R, S, q⟩ := h
    refine ⟨m, h, s, R, S, (Sat.bind (R := VR G) q).imp fun x H1 z => ?_⟩
    obtain ⟨m1, w, h1, l1, R1, ra, q1⟩ := z
    cases w with
    | int i =>
      cases ra
      exact ⟨i, rfl, q1 m1 H1 _ (.refl m1) R1 rfl⟩
    | _ => exact q1.elim
end
end Pm
/-! PmSeq: sums, sorting, methods of lists. -/
namespace Pm
open PySem PySem.Spec
open L2 (V Hp HO Cx Inv PE PT PA PS PSs PW TE TT TA TS St VK XK WX Ends RelV Vals upd upd_same upd_ne Takes R2 OpR CallR MtR tOp tVar Vis Gl Room Binds)
section
variable {X : Cx} {G : Gx} {Z : WX} {pos : Pos}
/-! ### whole numbers in a list -/
def wints : List W → Option (List Int)
  | [] => some []
  | .int i :: r => (match wints r with
    | some is => some (i :: is)
    | none => none)
  | _ => none
theorem wints_ok {m : Mp} : ∀ {ws : List W} {vs : List V} {is : List Int}, VRs G m ws vs → wints ws = some is → vs = is.map V.int
  | _, _, _, .nil, e => by cases e; rfl
  | w :: r, _, is, .cons q t, e => by
    cases w with
    | int i =>
      unfold wints at e
      cases e1 : wints r with
      | none =>
        rw [e1] at e
        cases e
      | some js =>
        rw [e1] at e
        cases e
        cases q
        rw [wints_ok t e1] <;> rfl
    | _ => cases e
def isum : List Int → Int
  | [] => 0
  | x :: r => x + isum r
theorem isum_ok : ∀ l : List Int, isum l = l.sum
  | [] => rfl
  | x :: r => by
    show x + isum r = (x :: r).sum
    rw [List.sum_cons, isum_ok r]
def oSum : OpN := fun xs h => match xs with
  | [x] => (match items h x with
    | some ys => (match wints ys with
      | some is => some (.int (isum is), h)
      | none => none)
    | none => none)
  | _ => none
/-- lists alone -/
def lst? (h : AH) : W → Option (List W)
  | .ref l => (match h.get l with
    | some (.lst xs) => some xs
    | _ => none)
  | .scr => some (h.s.map W.int)
  | _ => none
theorem lst_ok (hK : X.K = G.K) {m : Mp} {h : AH} {H : Hp} (R : Rel G m h H) {w : W} {v : V} (r : VR G m w v) {ws : List W} (e : lst? h w = some ws) : ∃ a vs, v = .ref a ∧ VRs G m ws vs ∧ L2.SqL X.K H a vs := by
  unfold lst? at e
  cases w with
  | ref l =>
    obtain ⟨a, ha, rfl⟩ := r
    dsimp only at e
    cases e1 : h.get l with
    | none =>
      rw [e1] at e
      cases e
    | some c =>
      rw [e1] at e
      cases c with
      | lst xs =>
        cases e
        obtain ⟨_, o1, vs, r1, rfl⟩ := R.see ha e1
        exact ⟨a, vs, rfl, r1, .inl (.inl o1)⟩
      | _ => cases e
  | scr =>
    cases e
    cases r
    exact ⟨G.sa, _, rfl, vrs_ints _, hK ▸ R.scr.sq⟩
  | _ => cases e
/-- a built-in of one list of ints -/
def oInts (f : List Int → AH → Option (W × AH)) : OpN := fun xs h => match xs with
  | [x] => (match lst? h x with
    | some ys => (match wints ys with
      | some is => f is h
      | none => none)
    | none => none)
  | _ => none
theorem ints_read (hK : X.K = G.K) {f : List Int → AH → Option (W × AH)} {xs : List V} {H : Hp} {Q : VK} (h : rN G (oInts f) xs H Q) : ∃ m h a is, Rel G m h H ∧ xs = [.ref a] ∧ L2.SqL X.K H a (is.map V.int) ∧ Sat G m (fun _ _ _ => False) (VR G) (ofO (f is h)) Q := by
  obtain ⟨m, h, as, R, rs, q⟩ := h
  cases rs with
  | nil => exact q.elim
  | cons r t =>
    cases t with
    | cons _ _ => exact q.elim
    | nil =>
      rename_i w v
      unfold oInts at q
      dsimp only at q
      cases e : lst? h w with
      | none =>
        rw [e] at q
        exact q.elim
      | some ws =>
        rw [e] at q
        dsimp only at q
        cases e2 : wints ws with
        | none =>
          rw [e2] at q
          exact q.elim
        | some is =>
          rw [e2] at q
          obtain ⟨a, vs, rfl, rv, hq⟩ := lst_ok hK R r e
          rw [wints_ok rv e2] at hq
          exact ⟨m, h, a, is, R, rfl, hq, q⟩
theorem cr_sum (hc : X.calm = true) (hK : X.K = G.K := by rfl) : CallR X (.builtin "sum") (rN G (oInts fun is h => some (.int (isum is), h))) := callr_of (L2.cr_sum hc) fun xs H Q h => by
  obtain ⟨m, h, a, is, R, rfl, hq, q⟩ := ints_read hK h
  exact ⟨a, is, rfl, hq, q m H _ (.refl m) R (by rw [isum_ok]; exact rfl)⟩
def ins : Int → List Int → List Int
  | x, [] => [x]
  | x, y :: r => match ile x y with
    | true => x :: y :: r
    | false => y :: ins x r
def isort : List Int → List Int
  | [] => []
  | x :: r => ins x (isort r)
theorem ins_perm (x : Int) : ∀ l : List Int, (ins x l).Perm (x :: l)
  | [] => .refl _
  | y :: r => by
    unfold ins
    cases ile x y with
    | true => exact .refl _
    | false => exact ((ins_perm x r).cons y).trans (.swap x y r)
theorem isort_perm : ∀ l : List Int, (isort l).Perm l
  | [] => .refl _
  | x :: r => (ins_perm x (isort r)).trans ((isort_perm r).cons x)
theorem ins_sorted (x : Int) : ∀ {l : List Int}, l.Pairwise (· ≤ ·) → (ins x l).Pairwise (· ≤ ·)
  | [], _ => List.pairwise_singleton _ _
  | y :: r, h => by
    unfold ins
    obtain ⟨h1, h2⟩ := List.pairwise_cons.mp h
    cases e : ile x y with
    | true =>
      rw [ile_iff] at e
      have e' : x ≤ y := of_decide_eq_true e
      exact List.pairwise_cons.mpr ⟨fun z hz => by
        rcases List.mem_cons.mp hz with rfl | hz
        · exact e'
        · exact Int.le_trans e' (h1 z hz), h⟩
    | false =>
      rw [ile_iff] at e
      have e' : ¬ x ≤ y := of_decide_eq_false e
      exact List.pairwise_cons.mpr ⟨fun z hz => by
        rcases List.mem_cons.mp ((ins_perm x r).mem_iff.mp hz) with rfl | hz
        · omega
        · exact h1 z hz, ins_sorted x h2⟩
theorem isort_sorted : ∀ l : List Int, (isort l).Pairwise (· ≤ ·)
  | [] => .nil
  | x :: r => ins_sorted x (isort_sorted r)
theorem cr_sorted (hK : X.K = G.K := by rfl) : CallR X (.builtin "sorted") (rN G (oInts fun is h => some (.ref h.n, h.new (.lst ((isort is).map W.int))))) := callr_of L2.cr_sortedI fun xs H Q h => by
  obtain ⟨m, h, a, is, R, rfl, hq, q⟩ := ints_read hK h
  refine ⟨a, is, rfl, hq, fun ns' p hp ho np => ?_⟩
  have e : ns' = isort is := PySem.W.lks_uniq (hp.trans (isort_perm is).symm) ho (isort_sorted is)
  subst e
  exact new_sat (c := .lst ((isort is).map W.int)) R np ⟨_, vrs_ints _, rfl⟩ q
def imax : Int → List Int → Int
  | m, [] => m
  | m, x :: r => match ilt m x with
    | true => imax x r
    | false => imax m r
def imin : Int → List Int → Int
  | m, [] => m
  | m, x :: r => match ilt x m with
    | true => imin x r
    | false => imin m r
theorem imax_ok : ∀ (l : List Int) (m : Int), imax m l ∈ m :: l ∧ ∀ y ∈ m :: l, y ≤ imax m l
  | [], m => ⟨List.mem_cons_self, fun y hy => by
    have e : y = m := by simpa using hy
    rw [e]
    exact Int.le_refl _⟩
  | x :: r, m => by
    unfold imax
    cases e : ilt m x with
    | true =>
      rw [ilt_iff] at e
      have e' := of_decide_eq_true e
      obtain ⟨a, b⟩ := imax_ok r x
      exact ⟨List.mem_cons_of_mem _ a, fun y hy => by
        rcases List.mem_cons.mp hy with rfl | hy
        · exact Int.le_trans (Int.le_of_lt e') (b x List.mem_cons_self)
        · exact b y hy⟩
    | false =>
      rw [ilt_iff] at e
      have e' := of_decide_eq_false e
      obtain ⟨a, b⟩ := imax_ok r m
      refine ⟨?_, fun y hy => ?_⟩
      · rcases List.mem_cons.mp a with a | a
        · rw [a]
          exact List.mem_cons_self
        · exact List.mem_cons_of_mem _ (List.mem_cons_of_mem _ a)
      · rcases List.mem_cons.mp hy with rfl | hy
        · exact b _ List.mem_cons_self
        · rcases List.mem_cons.mp hy with rfl | hy
          · exact Int.le_trans (Int.not_lt.mp e') (b m List.mem_cons_self)
          · exact b y (List.mem_cons_of_mem _ hy)
theorem imin_ok : ∀ (l : List Int) (m : Int), imin m l ∈ m :: l ∧ ∀ y ∈ m :: l, imin m l ≤ y
  | [], m => ⟨List.mem_cons_self, fun y hy => by
    have e : y = m := by simpa using hy
    rw [e]
    exact Int.le_refl _⟩
  | x :: r, m => by
    unfold imin
    cases e : ilt x m with
    | true =>
      rw [ilt_iff] at e
      have e' := of_decide_eq_true e
      obtain ⟨a, b⟩ := imin_ok r x
      exact ⟨List.mem_cons_of_mem _ a, fun y hy => by
        rcases List.mem_cons.mp hy with rfl | hy
        · exact Int.le_trans (b x List.mem_cons_self) (Int.le_of_lt e')
        · exact b y hy⟩
    | false =>
      rw [ilt_iff] at e
      have e' := of_decide_eq_false e
      obtain ⟨a, b⟩ := imin_ok r m
      refine ⟨?_, fun y hy => ?_⟩
      · rcases List.mem_cons.mp a with a | a
        · rw [a]
          exact List.mem_cons_self
        · exact List.mem_cons_of_mem _ (List.mem_cons_of_mem _ a)
      · rcases List.mem_cons.mp hy with rfl | hy
        · exact b _ List.mem_cons_self
        · rcases List.mem_cons.mp hy with rfl | hy
          · exact Int.le_trans (b m List.mem_cons_self) (Int.not_lt.mp e')
          · exact b y (List.mem_cons_of_mem _ hy)
def oMaxL : OpN := oInts fun is h => match is with
  | [] => none
  | x :: r => some (.int (imax x r), h)
def oMinL : OpN := oInts fun is h => match is with
  | [] => none
  | x :: r => some (.int (imin x r), h)
theorem cr_maxL (hc : X.calm = true) (hK : X.K = G.K := by rfl) : CallR X (.builtin "max") (rN G oMaxL) := callr_of (L2.cr_max hc) fun xs H Q h => by
  obtain ⟨m, h, a, is, R, rfl, hq, q⟩ := ints_read hK h
  cases is with
  | nil => exact q.elim
  | cons x r =>
    refine ⟨a, _, rfl, hq, Nat.succ_pos _, fun k h1 h2 => ?_⟩
    obtain ⟨z1, z2⟩ := imax_ok r x
    have e : k = imax x r := Int.le_antisymm (z2 k h1) (h2 _ z1)
    exact q m H _ (.refl m) R (by rw [e]; exact rfl)
theorem cr_minL (hc : X.calm = true) (hK : X.K = G.K := by rfl) : CallR X (.builtin "min") (rN G oMinL) := callr_of (L2.cr_min hc) fun xs H Q h => by
  obtain ⟨m, h, a, is, R, rfl, hq, q⟩ := ints_read hK h
  cases is with
  | nil => exact q.elim
  | cons x r =>
    refine ⟨a, _, rfl, hq, Nat.succ_pos _, fun k h1 h2 => ?_⟩
    obtain ⟨z1, z2⟩ := imin_ok r x
    have e : k = imin x r := Int.le_antisymm (h2 _ z1) (z2 k h1)
    exact q m H _ (.refl m) R (by rw [e]; exact rfl)
/-! ### xs.append(y), xs.pop() -/
def oAppend : Op2 := fun x y h => match x with
  | .ref l => (match h.get l with
    | some (.lst xs) => (match Nat.blt xs.length 1000000 with
      | true => some (.non, h.put l (.lst (xs ++ [y])))
      | false => none)
    | _ => none)
  | _ => none
theorem line_lt {n : Nat} (h : Nat.blt n 1000000 = true) : n < sizeLine := Nat.lt_of_lt_of_le (Nat.le_of_ble_eq_true h) (by rw [sizeLine_eq]; decide)
def isL (h : AH) : W → Bool
  | .ref l => (match h.get l with
    | some (.lst _) => true
    | _ => false)
  | _ => false
theorem isL_ok {m : Mp} {h : AH} {H : Hp} (R : Rel G m h H) {w : W} {v : V} (r : VR G m w v) (e : isL h w = true) : L2.tyV X.K "list" v H := by
  unfold isL at e
  cases w with
  | ref l =>
    obtain ⟨a, ha, rfl⟩ := r
    dsimp only at e
    cases e1 : h.get l with
    | none =>
      rw [e1] at e
      cases e
    | some c =>
      rw [e1] at e
      cases c with
      | lst xs =>
        obtain ⟨_, o1, vs, r1, rfl⟩ := R.see ha e1
        exact .inl ⟨rfl, _, .inl (.inl o1)⟩
      | _ => cases e
  | _ => cases e
/-- x.m(y): the kind of x is looked at first -/
def eMeth (chk : AH → W → Bool) (f : Op2) (a b : EM) : EM := fun σ h => (a σ h).bind fun x h1 => match chk h1 x with
  | true => (b σ h1).bind fun y h2 => ofO (f x y h2)
  | false => .no
theorem pm_meth {T id : String} {name : Str} {chk : AH → W → Bool} {f : Op2} {r : V → List V → Hp → VK → Prop} {o e : Expr} {apos cpos : Pos} {go ge : EM} (pa : PlainAttrs T) (slot : Slot T name id) (hty : typeOf (.builtin id) = pure (.type "method_descriptor")) (hm : MtR X id r)
    (hchk : ∀ {m : Mp} {h : AH} {H : Hp} {w : W} {v : V}, Rel G m h H → VR G m w v → chk h w = true → L2.tyV X.K T v H)
    (hf : ∀ {m : Mp} {h : AH} {H : Hp} {w w2 : W} {v v2 : V} {Q : VK}, Rel G m h H → VR G m w v → VR G m w2 v2 → Sat G m (fun _ _ _ => False) (VR G) (ofO (f w w2 h)) Q → r v [v2] H Q)
    (ho : PE X o (tE G Z go)) (he : PE X e (tE G Z ge)) (hs1 : starEach [e] X.env = (false, eval e X.env) :: starEach [] X.env := by rfl)
    (hbase : attributeBase o name X.env (eval o X.env) = eval o X.env := by rfl)
    (hfew : ((backTo cpos (starEach [e] X.env)).all (fun x => !x.1) && (backToKw cpos (keywordEach [] X.env)).all (fun x => x.1.isSome)
      && decide ([e].length + ([] : List Keyword).length + (if ([] : List Keyword).isEmpty then 0 else 1) < 30)) = true := by rfl)
    (hline : (apos.endLine == cpos.line) = true := by rfl) (hplain : (backTo cpos (starEach [] X.env)).any (·.1) = false := by rfl) :
    PE X (.Call (.Attribute o name apos) [e] [] cpos) (tE G Z (eMeth chk f go ge)) :=
  pe_of (L2.pe_bm pa slot hty hm ho (L2.pa_cons he L2.pa_nil hs1) hbase hfew hline hs1 hplain) fun σ H Q h => by
    obtain ⟨m, h, s, R, S, q⟩ := h
    refine ⟨m, h, s, R, S, (Sat.bind (R := VR G) q).imp fun x H1 z => ?_⟩
    obtain ⟨m1, w, h1, l1, R1, ra, q1⟩ := z
    cases ec : chk h1 w with
    | false =>
      rw [ec] at q1
      exact q1.elim
    | true =>
      rw [ec] at q1
      refine ⟨hchk R1 ra ec, m1, h1, s, R1, S.mono l1, (Sat.bind (R := VR G) q1).imp fun y H2 z => ?_⟩
      obtain ⟨m2, w2, h2, l2, R2, rb, q2⟩ := z
      exact hf R2 (ra.mono l2) rb q2.ofO
theorem pm_meth0 {T id : String} {name : Str} {f : Op1} {r : V → List V → Hp → VK → Prop} {o : Expr} {apos cpos : Pos} {go : EM} (pa : PlainAttrs T) (slot : Slot T name id) (hty : typeOf (.builtin id) = pure (.type "method_descriptor")) (hm : MtR X id r)
    (hf : ∀ {m : Mp} {h : AH} {H : Hp} {w : W} {v : V} {Q : VK}, Rel G m h H → VR G m w v → Sat G m (fun _ _ _ => False) (VR G) (ofO (f w h)) Q → L2.tyV X.K T v H ∧ r v [] H Q)
    (ho : PE X o (tE G Z go)) (hbase : attributeBase o name X.env (eval o X.env) = eval o X.env := by rfl) (hline : (apos.endLine == cpos.line) = true := by rfl) :
    PE X (.Call (.Attribute o name apos) [] [] cpos) (tE G Z (eOp1 f go)) :=
  pe_of (L2.pe_bm0 pa slot hty hm ho hbase hline) fun σ H Q h => by
    obtain ⟨m, h, s, R, S, q⟩ := h
    refine ⟨m, h, s, R, S, (Sat.bind (R := VR G) q).imp fun x H1 z => ?_⟩
    obtain ⟨m1, w, h1, l1, R1, ra, q1⟩ := z
    exact hf R1 ra q1.ofO
theorem append_read {m : Mp} {h : AH} {H : Hp} {w w2 : W} {v v2 : V} {Q : VK} (R : Rel G m h H) (r : VR G m w v) (r2 : VR G m w2 v2) (q : Sat G m (fun _ _ _ => False) (VR G) (ofO (oAppend w w2 h)) Q) : L2.rAppend v [v2] H Q := by
  unfold oAppend at q
  cases w with
  | ref l =>
    obtain ⟨a, ha, rfl⟩ := r
    dsimp only at q
    cases e1 : h.get l with
    | none =>
      rw [e1] at q
      exact q.elim
    | some c =>
      rw [e1] at q
      cases c with
      | lst xs =>
        obtain ⟨_, o1, vs, r1, rfl⟩ := R.see ha e1
        dsimp only at q
        cases e2 : Nat.blt xs.length 1000000 with
        | false =>
          rw [e2] at q
          exact q.elim
        | true =>
          rw [e2] at q
          refine ⟨a, vs, v2, rfl, rfl, o1, by rw [← vrs_len r1]; exact line_lt e2, ?_⟩
          exact q m _ .non (.refl m) (R.put (c := .lst xs) (c' := .lst (xs ++ [w2])) ha e1 rfl ⟨_, vrs_apps r1 (.cons r2 .nil), rfl⟩) rfl
      | _ => exact q.elim
  | _ => exact q.elim
theorem pm_append {o e : Expr} {apos cpos : Pos} {go ge : EM} (ho : PE X o (tE G Z go)) (he : PE X e (tE G Z ge)) (hs1 : starEach [e] X.env = (false, eval e X.env) :: starEach [] X.env := by rfl)
    (hbase : attributeBase o "append" X.env (eval o X.env) = eval o X.env := by rfl)
    (hfew : ((backTo cpos (starEach [e] X.env)).all (fun x => !x.1) && (backToKw cpos (keywordEach [] X.env)).all (fun x => x.1.isSome)
      && decide ([e].length + ([] : List Keyword).length + (if ([] : List Keyword).isEmpty then 0 else 1) < 30)) = true := by rfl)
    (hline : (apos.endLine == cpos.line) = true := by rfl) (hplain : (backTo cpos (starEach [] X.env)).any (·.1) = false := by rfl) :
    PE X (.Call (.Attribute o "append" apos) [e] [] cpos) (tE G Z (eMeth isL oAppend go ge)) :=
  pm_meth PySem.F.plainAttrs_list PySem.F.slot_list_append PySem.F.type_list_append L2.mt_append (fun R r e => isL_ok (X := X) R r e) (fun R r r2 q => append_read R r r2 q) ho he hs1 hbase hfew hline hplain
def oPop : Op1 := fun x h => match x with
  | .ref l => (match h.get l with
    | some (.lst xs) => (match nth xs (xs.length - 1) with
      | some y => some (y, h.put l (.lst xs.dropLast))
      | none => none)
    | _ => none)
  | _ => none
theorem vrs_dropLast {m : Mp} : ∀ {ws : List W} {vs : List V}, VRs G m ws vs → VRs G m ws.dropLast vs.dropLast
  | _, _, .nil => .nil
  | [_], _, .cons _ .nil => .nil
  | _ :: _ :: _, _, .cons r (.cons r2 t) => .cons r (vrs_dropLast (.cons r2 t))
theorem pop_read {m : Mp} {h : AH} {H : Hp} {w : W} {v : V} {Q : VK} (R : Rel G m h H) (r : VR G m w v) (q : Sat G m (fun _ _ _ => False) (VR G) (ofO (oPop w h)) Q) : L2.tyV X.K "list" v H ∧ L2.rPop v [] H Q := by
  unfold oPop at q
  cases w with
  | ref l =>
    obtain ⟨a, ha, rfl⟩ := r
    dsimp only at q
    cases e1 : h.get l with
    | none =>
      rw [e1] at q
      exact q.elim
    | some c =>
      rw [e1] at q
      cases c with
      | lst xs =>
        obtain ⟨_, o1, vs, r1, rfl⟩ := R.see ha e1
        dsimp only at q
        cases e2 : nth xs (xs.length - 1) with
        | none =>
          rw [e2] at q
          exact q.elim
        | some y =>
          rw [e2] at q
          obtain ⟨v, h1, h2⟩ := vrs_get r1 (nth_get ▸ e2)
          refine ⟨.inl ⟨rfl, _, .inl (.inl o1)⟩, a, vs, v, rfl, rfl, o1, by rw [← vrs_len r1]; exact h1, ?_⟩
          exact q m _ v (.refl m) (R.put (c := .lst xs) (c' := .lst xs.dropLast) ha e1 rfl ⟨_, vrs_dropLast r1, rfl⟩) h2
      | _ => exact q.elim
  | _ => exact q.elim
theorem pm_pop {o : Expr} {apos cpos : Pos} {go : EM} (ho : PE X o (tE G Z go)) (hbase : attributeBase o "pop" X.env (eval o X.env) = eval o X.env := by rfl) (hline : (apos.endLine == cpos.line) = true := by rfl) :
    PE X (.Call (.Attribute o "pop" apos) [] [] cpos) (tE G Z (eOp1 oPop go)) :=
  pm_meth0 PySem.F.plainAttrs_list PySem.F.slot_list_pop PySem.F.type_list_pop L2.mt_pop (fun R r q => pop_read (X := X) R r q) ho hbase hline
end
end Pm
/-! PmDeep: data read out of the heap; == and !=; repr. -/
namespace Pm
open PySem PySem.Spec
open L2 (V Hp HO Cx Inv PE PT PA PS PSs PW TE TT TA TS St VK XK WX Ends RelV Vals upd upd_same upd_ne Takes R2 OpR CallR MtR tOp tVar Vis Gl Room Binds)

/-! ### == of data -/
def symEq (a c i : Int) : Option Bool := match ilt i (loI a c) with
  | true => some false
  | false => (match ilt (hiI a c) i with
    | true => some false
    | false => none)
def leq : List Nat → List Nat → Bool
  | [], [] => true
  | x :: r, y :: t => Nat.beq x y && leq r t
  | _, _ => false
def bI : Bool → Int
  | true => 1
  | false => 0
mutual
def sdEq : SD → SD → Option Bool
  | .non, e => (match e with
    | .non => some true
    | .dct _ _ => none
    | _ => some false)
  | .bl a, e => (match e with
    | .bl b => some (a == b)
    | .int j => some (ieq (bI a) j)
    | .sym _ k c => symEq k c (bI a)
    | .dct _ _ => none
    | _ => some false)
  | .int i, e => (match e with
    | .bl b => some (ieq i (bI b))
    | .int j => some (ieq i j)
    | .sym _ k c => symEq k c i
    | .dct _ _ => none
    | _ => some false)
  | .sym n k c, e => (match e with
    | .bl b => symEq k c (bI b)
    | .int j => symEq k c j
    | .sym n' k' c' => (match Nat.beq n n' && ieq k k' with
      | true => some (ieq c c')
      | false => none)
    | .dct _ _ => none
    | _ => some false)
  | .str x, e => (match e with
    | .str y => some (leq x y)
    | .rep _ => none
    | .cat _ _ => none
    | .dct _ _ => none
    | _ => some false)
  | .rep _, _ => none
  | .cat _ _, _ => none
  | .dct _ _, _ => none
  | .lst xs, e => (match e with
    | .lst ys => sdEqs xs ys
    | .dct _ _ => none
    | _ => some false)
  | .tup xs, e => (match e with
    | .tup ys => sdEqs xs ys
    | .dct _ _ => none
    | _ => some false)
def sdEqs : List SD → List SD → Option Bool
  | [], ys => (match ys with
    | [] => some true
    | _ => some false)
  | x :: xs, ys => (match ys with
    | [] => some false
    | y :: ys => (match sdEq x y with
      | some true => sdEqs xs ys
      | some false => some false
      | none => (match sdEqs xs ys with
        | some false => some false
        | _ => none)))
end
theorem leq_ok : ∀ {x y : List Nat}, leq x y = decide (x = y)
  | [], [] => rfl
  | [], _ :: _ => rfl
  | _ :: _, [] => rfl
  | a :: x, b :: y => by
    unfold leq
    rw [leq_ok (x := x) (y := y), Bool.eq_iff_iff]
    simp [Nat.beq_eq]
section
variable {G : Gx}
theorem symEq_ok {n : Nat} {a c i : Int} {b : Bool} (h : symEq a c i = some b) : b = false ∧ a * G.ρ n + c ≠ i := by
  unfold symEq at h
  have h1 := hi_ok (G := G) n a c
  have h2 := lo_ok (G := G) n a c
  rw [ilt_iff, ilt_iff] at h
  split at h
  · rename_i e
    have e' := of_decide_eq_true e
    cases h
    exact ⟨rfl, by omega⟩
  · split at h
    · rename_i e
      have e' := of_decide_eq_true e
      cases h
      exact ⟨rfl, by omega⟩
    · cases h
theorem bI_if (b : Bool) : (if b then (1 : Int) else 0) = bI b := by cases b <;> rfl
theorem str_eqb (x y : List Nat) : ((⟨x.toArray⟩ : Str) == ⟨y.toArray⟩) = leq x y := by
  rw [leq_ok, Bool.eq_iff_iff]
  simp
mutual
theorem sdEq_ok : ∀ (d e : SD) (b : Bool), sdEq d e = some b → PyData.eqv (d.g G.ρ) (e.g G.ρ) = b
  | .non, e, b, h => by
    unfold sdEq at h
    cases e <;> cases h <;> simp only [SD.g, PyData.eqv]
  | .bl a, e, b, h => by
    unfold sdEq at h
    cases e with
    | bl b' => cases h; simp only [SD.g, PyData.eqv]
    | int j => cases h; simp only [SD.g, PyData.eqv]; rw [ieq_iff, bI_if, Bool.eq_iff_iff]; simp
    | sym n k c =>
      obtain ⟨rfl, z⟩ := symEq_ok (G := G) (n := n) h
      simp only [SD.g, PyData.eqv]
      rw [bI_if]
      exact beq_eq_false_iff_ne.mpr (fun q => z q.symm)
    | _ => cases h <;> simp only [SD.g, PyData.eqv]
  | .int i, e, b, h => by
    unfold sdEq at h
    cases e with
    | bl b' => cases h; simp only [SD.g, PyData.eqv]; rw [ieq_iff, bI_if, Bool.eq_iff_iff]; simp
    | int j => cases h; simp only [SD.g, PyData.eqv]; rw [ieq_iff, Bool.eq_iff_iff]; simp
    | sym n k c =>
      obtain ⟨rfl, z⟩ := symEq_ok (G := G) (n := n) h
      simp only [SD.g, PyData.eqv]
      exact beq_eq_false_iff_ne.mpr (fun q => z q.symm)
    | _ => cases h <;> simp only [SD.g, PyData.eqv]
  | .sym n k c, e, b, h => by
    unfold sdEq at h
    cases e with
    | bl b' =>
      obtain ⟨rfl, z⟩ := symEq_ok (G := G) (n := n) h
      simp only [SD.g, PyData.eqv]
      rw [bI_if]
      exact beq_eq_false_iff_ne.mpr z
    | int j =>
      obtain ⟨rfl, z⟩ := symEq_ok (G := G) (n := n) h
      simp only [SD.g, PyData.eqv]
      exact beq_eq_false_iff_ne.mpr z
    | sym n' k' c' =>
      dsimp only at h
      cases e1 : Nat.beq n n' && ieq k k' with
      | false =>
        rw [e1] at h
        cases h
      | true =>
        rw [e1] at h
        cases h
        obtain ⟨z1, z2⟩ := Bool.and_eq_true_iff.mp e1
        have z1' := Nat.eq_of_beq_eq_true z1
        rw [ieq_iff] at z2
        have z2' := of_decide_eq_true z2
        subst z1' z2'
        simp only [SD.g, PyData.eqv]
        rw [ieq_iff, Bool.eq_iff_iff]
        simp only [beq_iff_eq, decide_eq_true_eq]
        constructor <;> intro q <;> omega
    | _ => cases h <;> simp only [SD.g, PyData.eqv]
  | .str x, e, b, h => by
    unfold sdEq at h
    cases e with
    | str y =>
      cases h
      simp only [SD.g, PyData.eqv]
      exact str_eqb x y
    | _ => cases h <;> simp only [SD.g, PyData.eqv]
  | .rep _, e, b, h => by unfold sdEq at h; cases h
  | .cat _ _, e, b, h => by unfold sdEq at h; cases h
  | .dct _ _, e, b, h => by unfold sdEq at h; cases h
  | .lst xs, e, b, h => by
    unfold sdEq at h
    cases e with
    | lst ys =>
      simp only [SD.g, PyData.eqv]
      exact sdEqs_ok xs ys b h
    | _ => cases h <;> simp only [SD.g, PyData.eqv]
  | .tup xs, e, b, h => by
    unfold sdEq at h
    cases e with
    | tup ys =>
      simp only [SD.g, PyData.eqv]
      exact sdEqs_ok xs ys b h
    | _ => cases h <;> simp only [SD.g, PyData.eqv]
theorem sdEqs_ok : ∀ (d e : List SD) (b : Bool), sdEqs d e = some b → PyData.eqvAll (SD.gs G.ρ d) (SD.gs G.ρ e) = b
  | [], e, b, h => by
    unfold sdEqs at h
    cases e <;> cases h <;> simp only [SD.gs, PyData.eqvAll]
  | x :: xs, [], b, h => by
    unfold sdEqs at h
    cases h
    simp only [SD.gs, PyData.eqvAll]
  | x :: xs, y :: ys, b, h => by
    unfold sdEqs at h
    dsimp only at h
    simp only [SD.gs, PyData.eqvAll]
    cases e1 : sdEq x y with
    | none =>
      rw [e1] at h
      dsimp only at h
      cases e2 : sdEqs xs ys with
      | none =>
        rw [e2] at h
        cases h
      | some t =>
        rw [e2] at h
        cases t with
        | true => cases h
        | false =>
          cases h
          rw [sdEqs_ok xs ys _ e2, Bool.and_false]
    | some t =>
      rw [e1] at h
      rw [sdEq_ok x y _ e1]
      cases t with
      | false =>
        cases h
        rfl
      | true =>
        rw [Bool.true_and]
        exact sdEqs_ok xs ys b h
end
end
/-! ### how big -/
def int100 (i : Int) : Bool := Nat.blt i.natAbs 10000000000000000000000000000000000000000000000000000000000000000000000000000000000000000000000000000
def int50 (i : Int) : Bool := Nat.blt i.natAbs 100000000000000000000000000000000000000000000000000
mutual
def SD.fit : SD → Option (Nat × Nat)
  | .non => some (0, 0)
  | .bl _ => some (0, 0)
  | .int i => (match int100 i with
    | true => some (700, 0)
    | false => none)
  | .sym _ a c => (match int50 a && int50 c with
    | true => some (700, 0)
    | false => none)
  | .str x => (match x.all fun c => Nat.blt c 1114112 with
    | true => some (x.length, 0)
    | false => none)
  | .rep _ => none
  | .cat _ _ => none
  | .dct _ _ => none
  | .lst xs => (match SD.fits xs with
    | some (w, k) => some (w, k + 1)
    | none => none)
  | .tup xs => (match SD.fits xs with
    | some (w, k) => some (w, k + 1)
    | none => none)
def SD.fits : List SD → Option (Nat × Nat)
  | [] => some (0, 0)
  | d :: r => (match SD.fit d with
    | none => none
    | some (w, k) => (match SD.fits r with
      | none => none
      | some (w', k') => some (w + 1 + w', Nat.max k k')))
end

structure Fit (d : PyData) (w k : Nat) : Prop where
  lay : d.canLay0 = true
  wt : d.weight ≤ w
  dp : d.depth ≤ k
  sh : d.showable = true
  ls : d.leavesShort 200 = true
  nd : d.hasDict = false
structure Fits (d : List PyData) (w k : Nat) : Prop where
  lay : PyData.canLayAll0 d = true
  wt : PyData.weightAll d ≤ w
  dp : PyData.depthAll d ≤ k
  sh : PyData.showableAll d = true
  ls : PyData.leavesShortAll 200 d = true
  nd : PyData.hasDictAll d = false
theorem fit_int {i : Int} (h : i.natAbs < 10 ^ 150) : Fit (.int i) 700 0 := by
  have h2 : i.natAbs < 2 ^ 600 := Nat.lt_trans h (by decide +kernel)
  have hl : i.natAbs.log2 < 600 := by
    by_cases z : i.natAbs = 0
    · rw [z]
      decide +kernel
    · exact (Nat.log2_lt z).mpr h2
  refine ⟨by simp only [PyData.canLay0], ?_, by simp only [PyData.depth]; exact Nat.le_refl _, ?_, ?_, by simp only [PyData.hasDict]⟩
  · simp only [PyData.weight]
    split <;> omega
  · simp only [PyData.showable, decide_eq_true_eq]
    omega
  · simp only [PyData.leavesShort, decide_eq_true_eq]
    have e := int_text_length_le10 (k := 150) (by decide) h
    show (Str.ofString (toString i)).length ≤ 200
    rw [ofString_length]
    omega
section
variable {G : Gx}
theorem abs_le {i : Int} {n : Nat} (h : i.natAbs < n) : -(n : Int) < i ∧ i < n := by omega
theorem sym_abs {a c r : Int} (ha : a.natAbs < 10 ^ 50) (hc : c.natAbs < 10 ^ 50) (h0 : 0 ≤ r) (h1 : r ≤ 10 ^ 30) : (a * r + c).natAbs < 10 ^ 150 := by
  have e1 : (a * r).natAbs = a.natAbs * r.natAbs := Int.natAbs_mul a r
  have hr : r.natAbs ≤ 10 ^ 30 := by
    have : (r.natAbs : Int) = r := Int.natAbs_of_nonneg h0
    have h1' : (r.natAbs : Int) ≤ ((10 ^ 30 : Nat) : Int) := by rw [this]; exact h1
    exact Int.ofNat_le.mp h1'
  have e2 : a.natAbs * r.natAbs ≤ 10 ^ 50 * 10 ^ 30 := Nat.mul_le_mul (Nat.le_of_lt ha) hr
  have e3 := Int.natAbs_add_le (a * r) c
  have e4 : (10 : Nat) ^ 50 * 10 ^ 30 + 10 ^ 50 < 10 ^ 150 := by decide +kernel
  rw [e1] at e3
  generalize (10 : Nat) ^ 50 * 10 ^ 30 = A at e2 e4
  generalize (10 : Nat) ^ 150 = B at e4 ⊢
  generalize (10 : Nat) ^ 50 = C at ha hc e4
  omega
mutual
theorem SD.fit_ok : ∀ (d : SD) (w k : Nat), d.fit = some (w, k) → Fit (d.g G.ρ) w k
  | .non, w, k, h => by
    unfold SD.fit at h
    cases h
    exact ⟨by simp only [SD.g, PyData.canLay0], by simp [SD.g, PyData.weight], by simp [SD.g, PyData.depth], by simp [SD.g, PyData.showable], by simp [SD.g, PyData.leavesShort], by simp [SD.g, PyData.hasDict]⟩
  | .bl b, w, k, h => by
    unfold SD.fit at h
    cases h
    exact ⟨by simp only [SD.g, PyData.canLay0], by simp [SD.g, PyData.weight], by simp [SD.g, PyData.depth], by simp [SD.g, PyData.showable], by simp [SD.g, PyData.leavesShort], by simp [SD.g, PyData.hasDict]⟩
  | .int i, w, k, h => by
    unfold SD.fit at h
    cases e : int100 i with
    | false =>
      rw [e] at h
      cases h
    | true =>
      rw [e] at h
      cases h
      refine fit_int (Nat.lt_trans (Nat.le_of_ble_eq_true e) (by decide +kernel))
  | .sym n a c, w, k, h => by
    unfold SD.fit at h
    cases e : int50 a && int50 c with
    | false =>
      rw [e] at h
      cases h
    | true =>
      rw [e] at h
      cases h
      obtain ⟨e1, e2⟩ := Bool.and_eq_true_iff.mp e
      obtain ⟨h0, h1⟩ := G.ρ0 n
      exact fit_int (sym_abs (Nat.le_of_ble_eq_true e1) (Nat.le_of_ble_eq_true e2) h0 h1)
  | .str x, w, k, h => by
    unfold SD.fit at h
    cases e : x.all fun c => Nat.blt c 1114112 with
    | false =>
      rw [e] at h
      cases h
    | true =>
      rw [e] at h
      cases h
      have hx : ∀ c ∈ x, c < 1114112 := fun c hc => Nat.le_of_ble_eq_true (List.all_eq_true.mp e c hc)
      refine ⟨?_, by simp [SD.g, PyData.weight], by simp [SD.g, PyData.depth], by simp [SD.g, PyData.showable], ?_, by simp [SD.g, PyData.hasDict]⟩
      · simp only [SD.g, PyData.canLay0, PyData.strOk, List.all_toArray, List.all_eq_true, decide_eq_true_eq]
        exact hx
      · simp only [SD.g, PyData.leavesShort, List.all_eq_true, decide_eq_true_eq]
        intro c hc
        exact Nat.lt_trans (hx c (by simpa using hc)) (by decide)
  | .rep _, w, k, h => by unfold SD.fit at h; cases h
  | .cat _ _, w, k, h => by unfold SD.fit at h; cases h
  | .dct _ _, w, k, h => by unfold SD.fit at h; cases h
  | .lst xs, w, k, h => by
    unfold SD.fit at h
    cases e : SD.fits xs with
    | none =>
      rw [e] at h
      cases h
    | some p =>
      obtain ⟨w', k'⟩ := p
      rw [e] at h
      cases h
      have F := SD.fits_ok xs _ _ e
      exact ⟨by simp only [SD.g, PyData.canLay0]; exact F.lay, by simp only [SD.g, PyData.weight]; exact F.wt, by simp only [SD.g, PyData.depth]; exact Nat.succ_le_succ F.dp, by simp only [SD.g, PyData.showable]; exact F.sh, by simp only [SD.g, PyData.leavesShort]; exact F.ls, by simp only [SD.g, PyData.hasDict]; exact F.nd⟩
  | .tup xs, w, k, h => by
    unfold SD.fit at h
    cases e : SD.fits xs with
    | none =>
      rw [e] at h
      cases h
    | some p =>
      obtain ⟨w', k'⟩ := p
      rw [e] at h
      cases h
      have F := SD.fits_ok xs _ _ e
      exact ⟨by simp only [SD.g, PyData.canLay0]; exact F.lay, by simp only [SD.g, PyData.weight]; exact F.wt, by simp only [SD.g, PyData.depth]; exact Nat.succ_le_succ F.dp, by simp only [SD.g, PyData.showable]; exact F.sh, by simp only [SD.g, PyData.leavesShort]; exact F.ls, by simp only [SD.g, PyData.hasDict]; exact F.nd⟩
theorem SD.fits_ok : ∀ (d : List SD) (w k : Nat), SD.fits d = some (w, k) → Fits (SD.gs G.ρ d) w k
  | [], w, k, h => by
    unfold SD.fits at h
    cases h
    exact ⟨by simp only [SD.gs, PyData.canLayAll0], by simp [SD.gs, PyData.weightAll], by simp [SD.gs, PyData.depthAll], by simp [SD.gs, PyData.showableAll], by simp [SD.gs, PyData.leavesShortAll], by simp [SD.gs, PyData.hasDictAll]⟩
  | d :: r, w, k, h => by
    unfold SD.fits at h
    cases e : SD.fit d with
    | none =>
      rw [e] at h
      cases h
    | some p =>
      obtain ⟨w1, k1⟩ := p
      rw [e] at h
      dsimp only at h
      cases e2 : SD.fits r with
      | none =>
        rw [e2] at h
        cases h
      | some p =>
        obtain ⟨w2, k2⟩ := p
        rw [e2] at h
        cases h
        have F := SD.fit_ok d _ _ e
        have F2 := SD.fits_ok r _ _ e2
        refine ⟨by simp only [SD.gs, PyData.canLayAll0]; exact Bool.and_eq_true_iff.mpr ⟨F.lay, F2.lay⟩, ?_, ?_, by simp only [SD.gs, PyData.showableAll]; exact Bool.and_eq_true_iff.mpr ⟨F.sh, F2.sh⟩, by simp only [SD.gs, PyData.leavesShortAll]; exact Bool.and_eq_true_iff.mpr ⟨F.ls, F2.ls⟩, ?_⟩
        · simp only [SD.gs, PyData.weightAll]
          have := F.wt
          have := F2.wt
          omega
        · simp only [SD.gs, PyData.depthAll]
          have h1 := F.dp
          have h2 := F2.dp
          exact Nat.max_le.mpr ⟨Nat.le_trans h1 (Nat.le_max_left _ _), Nat.le_trans h2 (Nat.le_max_right _ _)⟩
        · simp only [SD.gs, PyData.hasDictAll]
          rw [F.nd, F2.nd] <;> rfl
end
/-! ### reading -/
def rds (f : W → Option SD) : List W → Option (List SD)
  | [] => some []
  | x :: r => (match f x with
    | none => none
    | some d => (match rds f r with
      | none => none
      | some ds => some (d :: ds)))
def rd : Nat → AH → W → Option SD
  | 0, _, _ => none
  | f + 1, h, w => match w with
    | .non => some .non
    | .bl b => some (.bl b)
    | .int i => some (.int i)
    | .sym k a c => some (.sym k a c)
    | .txt (.str x) => some (.str x)
    | .ref l => (match h.get l with
      | some (.lst xs) => (match rds (rd f h) xs with
        | some ds => some (.lst ds)
        | none => none)
      | some (.tup xs) => (match rds (rd f h) xs with
        | some ds => some (.tup ds)
        | none => none)
      | _ => none)
    | _ => none
theorem rds_ok {K : PySem.W.Frag} {m : Mp} {H : Hp} {f : W → Option SD} (hf : ∀ w v d, f w = some d → VR G m w v → L2.Dp K H v (d.g G.ρ)) : ∀ {ws : List W} {vs : List V} {ds : List SD}, rds f ws = some ds → VRs G m ws vs → L2.DpAll K H vs (SD.gs G.ρ ds)
  | [], _, ds, e, .nil => by
    cases e
    exact .nil
  | w :: r, _, ds, e, .cons q t => by
    unfold rds at e
    cases e1 : f w with
    | none =>
      rw [e1] at e
      cases e
    | some d =>
      rw [e1] at e
      dsimp only at e
      cases e2 : rds f r with
      | none =>
        rw [e2] at e
        cases e
      | some ds =>
        rw [e2] at e
        cases e
        exact .cons (hf w _ d e1 q) (rds_ok hf e2 t)
theorem rd_ok {K : PySem.W.Frag} {m : Mp} {h : AH} {H : Hp} (R : Rel G m h H) : ∀ (f : Nat) (w : W) (v : V) (d : SD), rd f h w = some d → VR G m w v → L2.Dp K H v (d.g G.ρ)
  | 0, _, _, _, e, _ => by
    unfold rd at e
    cases e
  | f + 1, w, v, d, e, r => by
    unfold rd at e
    cases w with
    | non => cases e; cases r; exact .non
    | bl b => cases e; cases r; exact .bl b
    | int i => cases e; cases r; exact .int i
    | sym k a c => cases e; cases r; exact .int _
    | txt t =>
      cases t with
      | str x => cases e; cases r; exact .str _
      | _ => cases e
    | ref l =>
      obtain ⟨a, ha, rfl⟩ := r
      dsimp only at e
      cases e1 : h.get l with
      | none =>
        rw [e1] at e
        cases e
      | some c =>
        rw [e1] at e
        cases c with
        | lst xs =>
          obtain ⟨_, o1, vs, r1, rfl⟩ := R.see ha e1
          dsimp only at e
          cases e2 : rds (rd f h) xs with
          | none =>
            rw [e2] at e
            cases e
          | some ds =>
            rw [e2] at e
            cases e
            simp only [SD.g]
            exact .lst (.inl (.inl o1)) (rds_ok (fun w v d e q => rd_ok R f w v d e q) e2 r1)
        | tup xs =>
          obtain ⟨_, o1, vs, r1, rfl⟩ := R.see ha e1
          dsimp only at e
          cases e2 : rds (rd f h) xs with
          | none =>
            rw [e2] at e
            cases e
          | some ds =>
            rw [e2] at e
            cases e
            simp only [SD.g]
            exact .tup (.inl (.inl o1)) (rds_ok (fun w v d e q => rd_ok R f w v d e q) e2 r1)
        | _ => cases e
    | _ => cases e
end
end Pm
/-! PmEq: == and != of values, in and not in, repr. -/
namespace Pm
open PySem PySem.Spec
open L2 (V Hp HO Cx Inv PE PT PA PS PSs PW TE TT TA TS St VK XK WX Ends RelV Vals upd upd_same upd_ne Takes R2 OpR CallR MtR tOp tVar Vis Gl Room Binds)
/-! ### the same, letter by letter -/
mutual
def same : SD → SD → Bool
  | .non, e => (match e with
    | .non => true
    | _ => false)
  | .bl a, e => (match e with
    | .bl b => a == b
    | _ => false)
  | .int a, e => (match e with
    | .int b => ieq a b
    | _ => false)
  | .sym k a c, e => (match e with
    | .sym k' a' c' => Nat.beq k k' && (ieq a a' && ieq c c')
    | _ => false)
  | .str x, e => (match e with
    | .str y => leq x y
    | _ => false)
  | .rep d, e => (match e with
    | .rep e => same d e
    | _ => false)
  | .cat a b, e => (match e with
    | .cat c d => same a c && same b d
    | _ => false)
  | .lst xs, e => (match e with
    | .lst ys => sames xs ys
    | _ => false)
  | .tup xs, e => (match e with
    | .tup ys => sames xs ys
    | _ => false)
  | .dct ks vs, e => (match e with
    | .dct ls us => sames ks ls && sames vs us
    | _ => false)
def sames : List SD → List SD → Bool
  | [], e => (match e with
    | [] => true
    | _ => false)
  | x :: xs, e => (match e with
    | [] => false
    | y :: ys => same x y && sames xs ys)
end
theorem ieq_eq {i j : Int} (h : ieq i j = true) : i = j := by
  rw [ieq_iff] at h
  exact of_decide_eq_true h
theorem leq_eq {i j : List Nat} (h : leq i j = true) : i = j := by
  rw [leq_ok] at h
  exact of_decide_eq_true h
mutual
theorem same_eq : ∀ {d e : SD}, same d e = true → d = e
  | .non, e, h => by
    unfold same at h
    cases e <;> first | rfl | cases h
  | .bl a, e, h => by
    unfold same at h
    cases e with
    | bl b => rw [beq_iff_eq.mp h]
    | _ => cases h
  | .int a, e, h => by
    unfold same at h
    cases e with
    | int b => rw [ieq_eq h]
    | _ => cases h
  | .sym k a c, e, h => by
    unfold same at h
    cases e with
    | sym k' a' c' =>
      obtain ⟨h1, h2⟩ := Bool.and_eq_true_iff.mp h
      obtain ⟨h2, h3⟩ := Bool.and_eq_true_iff.mp h2
      rw [Nat.eq_of_beq_eq_true h1, ieq_eq h2, ieq_eq h3]
    | _ => cases h
  | .str x, e, h => by
    unfold same at h
    cases e with
    | str b => rw [leq_eq h]
    | _ => cases h
  | .rep d, e, h => by
    unfold same at h
    cases e with
    | rep b => rw [same_eq h]
    | _ => cases h
  | .cat a b, e, h => by
    unfold same at h
    cases e with
    | cat c d =>
      obtain ⟨h1, h2⟩ := Bool.and_eq_true_iff.mp h
      rw [same_eq h1, same_eq h2]
    | _ => cases h
  | .lst xs, e, h => by
    unfold same at h
    cases e with
    | lst b => rw [sames_eq h]
    | _ => cases h
  | .tup xs, e, h => by
    unfold same at h
    cases e with
    | tup b => rw [sames_eq h]
    | _ => cases h
  | .dct ks vs, e, h => by
    unfold same at h
    cases e with
    | dct c d =>
      obtain ⟨h1, h2⟩ := Bool.and_eq_true_iff.mp h
      rw [sames_eq h1, sames_eq h2]
    | _ => cases h
theorem sames_eq : ∀ {d e : List SD}, sames d e = true → d = e
  | [], e, h => by
    unfold sames at h
    cases e <;> first | rfl | cases h
  | x :: xs, [], h => by
    unfold sames at h
    cases h
  | x :: xs, y :: ys, h => by
    unfold sames at h
    obtain ⟨h1, h2⟩ := Bool.and_eq_true_iff.mp h
    rw [same_eq h1, sames_eq h2]
end
/-! ### == -/
def deepEq (h : AH) (x y : W) : Option Bool := match rd 60 h x with
  | none => none
  | some d => (match rd 60 h y with
    | none => none
    | some e => (match d.fit with
      | none => none
      | some (_, k) => (match e.fit with
        | none => none
        | some (_, k') => (match Nat.ble k 64 && Nat.ble k' 64 with
          | true => sdEq d e
          | false => none))))
/-- flat values, the same -/
def wsame : W → W → Bool
  | .non, e => (match e with
    | .non => true
    | _ => false)
  | .bl a, e => (match e with
    | .bl b => a == b
    | _ => false)
  | .int a, e => (match e with
    | .int b => ieq a b
    | _ => false)
  | .sym k a c, e => (match e with
    | .sym k' a' c' => Nat.beq k k' && (ieq a a' && ieq c c')
    | _ => false)
  | .txt x, e => (match e with
    | .txt y => same x y
    | _ => false)
  | _, _ => false
def keq : Sum Int (List Nat) → Sum Int (List Nat) → Bool
  | .inl i, .inl j => ieq i j
  | .inr i, .inr j => leq i j
  | _, _ => false
def dsame : List (Sum Int (List Nat) × W) → List (Sum Int (List Nat) × W) → Bool
  | [], [] => true
  | (k, v) :: r, (k', v') :: r' => keq k k' && (wsame v v' && dsame r r')
  | _, _ => false
def knodup : List (Sum Int (List Nat) × W) → Bool
  | [] => true
  | (k, _) :: r => !(r.any fun p => keq k p.1) && knodup r
def eqB (h : AH) (x y : W) : Option Bool := match x with
  | .txt d => (match y with
    | .txt e => (match same d e with
      | true => some true
      | false => deepEq h x y)
    | _ => deepEq h x y)
  | .ref l => (match h.get l with
    | some (.dct ks) => (match y with
      | .ref l2 => (match h.get l2 with
        | some (.dct ls) => (match knodup ks && dsame ks ls with
          | true => some true
          | false => none)
        | _ => none)
      | _ => none)
    | _ => deepEq h x y)
  | _ => deepEq h x y
def oEq : Op2 := fun x y h => match eqB h x y with
  | some b => some (.bl b, h)
  | none => none
def oNe : Op2 := fun x y h => match eqB h x y with
  | some b => some (.bl (!b), h)
  | none => none
section
variable {X : Cx} {G : Gx} {Z : WX} {pos : Pos}
theorem deepEq_ok {K : PySem.W.Frag} {m : Mp} {h : AH} {H : Hp} (R : Rel G m h H) {w w' : W} {v v' : V} {b : Bool} (e : deepEq h w w' = some b) (r : VR G m w v) (r' : VR G m w' v') :
    ∃ d d', L2.Dp K H v d ∧ L2.Dp K H v' d' ∧ SeqAt.shaped d = true ∧ SeqAt.shaped d' = true ∧ PyData.eqv d d' = b := by
  unfold deepEq at e
  cases e1 : rd 60 h w with
  | none => rw [e1] at e; cases e
  | some d =>
    rw [e1] at e
    dsimp only at e
    cases e2 : rd 60 h w' with
    | none => rw [e2] at e; cases e
    | some d' =>
      rw [e2] at e
      dsimp only at e
      cases e3 : d.fit with
      | none => rw [e3] at e; cases e
      | some p =>
        obtain ⟨w1, k⟩ := p
        rw [e3] at e
        dsimp only at e
        cases e4 : d'.fit with
        | none => rw [e4] at e; cases e
        | some p =>
          obtain ⟨w2, k'⟩ := p
          rw [e4] at e
          dsimp only at e
          cases e5 : Nat.ble k 64 && Nat.ble k' 64 with
          | false => rw [e5] at e; cases e
          | true =>
            rw [e5] at e
            obtain ⟨z1, z2⟩ := Bool.and_eq_true_iff.mp e5
            have F1 := SD.fit_ok (G := G) d _ _ e3
            have F2 := SD.fit_ok (G := G) d' _ _ e4
            exact ⟨_, _, rd_ok R _ _ _ _ e1 r, rd_ok R _ _ _ _ e2 r', Bool.and_eq_true_iff.mpr ⟨F1.lay, decide_eq_true (Nat.le_trans F1.dp (Nat.le_of_ble_eq_true z1))⟩,
              Bool.and_eq_true_iff.mpr ⟨F2.lay, decide_eq_true (Nat.le_trans F2.dp (Nat.le_of_ble_eq_true z2))⟩, sdEq_ok d d' b e⟩
theorem wsame_ok {m m' : Mp} {w w' : W} {v v' : V} (e : wsame w w' = true) (r : VR G m w v) (r' : VR G m' w' v') : v = v' ∧ L2.flatB v = true := by
  unfold wsame at e
  cases w with
  | non =>
    cases w' with
    | non => cases r; cases r'; exact ⟨rfl, rfl⟩
    | _ => cases e
  | bl a =>
    cases w' with
    | bl b => cases r; cases r'; exact ⟨congrArg V.bl (beq_iff_eq.mp e), rfl⟩
    | _ => cases e
  | int a =>
    cases w' with
    | int b => cases r; cases r'; exact ⟨congrArg V.int (ieq_eq e), rfl⟩
    | _ => cases e
  | sym k a c =>
    cases w' with
    | sym k' a' c' =>
      obtain ⟨h1, h2⟩ := Bool.and_eq_true_iff.mp e
      obtain ⟨h2, h3⟩ := Bool.and_eq_true_iff.mp h2
      cases r
      cases r'
      rw [Nat.eq_of_beq_eq_true h1, ieq_eq h2, ieq_eq h3]
      exact ⟨rfl, rfl⟩
    | _ => cases e
  | txt a =>
    cases w' with
    | txt b =>
      cases r
      cases r'
      rw [same_eq e]
      exact ⟨rfl, rfl⟩
    | _ => cases e
  | _ => cases e
theorem keq_ok {k k' : Sum Int (List Nat)} : keq k k' = decide (kof k = kof k') := by
  cases k with
  | inl i =>
    cases k' with
    | inl j =>
      show ieq i j = _
      rw [ieq_iff, Bool.eq_iff_iff]
      simp [kof]
    | inr j => simp [keq, kof]
  | inr i =>
    cases k' with
    | inl j => simp [keq, kof]
    | inr j =>
      show leq i j = _
      rw [leq_ok, Bool.eq_iff_iff]
      simp [kof]
abbrev KR (G : Gx) (m : Mp) : List (Sum Int (List Nat) × W) → List (L2.Key × V) → Prop := Paired fun p q => kof p.1 = q.1 ∧ VR G m p.2 q.2
theorem dsame_ok {m : Mp} : ∀ {ks ls : List (Sum Int (List Nat) × W)} {us vs : List (L2.Key × V)}, dsame ks ls = true → KR G m ks us → KR G m ls vs → us = vs ∧ ∀ p ∈ us, L2.flatB p.2 = true
  | [], [], _, _, _, .nil, .nil => ⟨rfl, fun _ z => nomatch z⟩
  | [], _ :: _, _, _, e, _, _ => by cases e
  | _ :: _, [], _, _, e, _, _ => by cases e
  | (k, w) :: r, (k', w') :: r', (q :: us), (q' :: vs), e, .cons h t, .cons h' t' => by
    obtain ⟨e1, e2⟩ := Bool.and_eq_true_iff.mp e
    obtain ⟨e2, e3⟩ := Bool.and_eq_true_iff.mp e2
    rw [keq_ok] at e1
    have e1' := of_decide_eq_true e1
    obtain ⟨z1, z2⟩ := wsame_ok e2 h.2 h'.2
    obtain ⟨y1, y2⟩ := dsame_ok e3 t t'
    have h1 : kof k = q.1 := h.1
    have h2 : kof k' = q'.1 := h'.1
    refine ⟨?_, fun p hp => ?_⟩
    · rw [y1, show q = q' from Prod.ext (by rw [← h1, ← h2, e1']) z1]
    · rcases List.mem_cons.mp hp with rfl | hp
      · exact z2
      · exact y2 p hp
theorem knodup_ok {m : Mp} : ∀ {ks : List (Sum Int (List Nat) × W)} {us : List (L2.Key × V)}, knodup ks = true → KR G m ks us → (us.map (·.1)).Nodup
  | [], _, _, .nil => List.nodup_nil
  | (k, w) :: r, (q :: us), e, .cons h t => by
    obtain ⟨e1, e2⟩ := Bool.and_eq_true_iff.mp e
    rw [List.map_cons, List.nodup_cons]
    refine ⟨fun z => ?_, knodup_ok e2 t⟩
    have e1' : (r.any fun p => keq k p.1) = false := by simpa using e1
    have main : ∀ {r : List (Sum Int (List Nat) × W)} {us : List (L2.Key × V)}, KR G m r us → q.1 ∈ us.map (·.1) → (r.any fun p => keq k p.1) = true := fun {r us} t => by
      induction t with
      | nil => intro z; cases z
      | cons h' _ ih =>
        intro z
        rw [List.any_cons, Bool.or_eq_true]
        rw [List.map_cons] at z
        rcases List.mem_cons.mp z with z | z
        · left
          rw [keq_ok]
          exact decide_eq_true (h.1.trans (z.trans h'.1.symm))
        · exact .inr (ih z)
    rw [main t z] at e1'
    cases e1'
/-- what the three ways of comparing give -/
theorem eqB_read {K : PySem.W.Frag} {m : Mp} {h : AH} {H : Hp} (R : Rel G m h H) {w w' : W} {v v' : V} {b : Bool} (e : eqB h w w' = some b) (r : VR G m w v) (r' : VR G m w' v') :
    (∃ d d', L2.Dp K H v d ∧ L2.Dp K H v' d' ∧ SeqAt.shaped d = true ∧ SeqAt.shaped d' = true ∧ PyData.eqv d d' = b) ∨ (b = true ∧ ∃ s : Str, v = .str s ∧ v' = .str s) ∨
      (b = true ∧ ∃ a a' kvs, v = .ref a ∧ v' = .ref a' ∧ H a = some (.dK kvs) ∧ H a' = some (.dK kvs) ∧ (kvs.map (·.1)).Nodup ∧ ∀ p ∈ kvs, L2.flatB p.2 = true) := by
  unfold eqB at e
  cases w with
  | txt d =>
    cases w' with
    | txt d' =>
      dsimp only at e
      cases e1 : same d d' with
      | false =>
        rw [e1] at e
        exact .inl (deepEq_ok R e r r')
      | true =>
        rw [e1] at e
        cases e
        cases r
        cases r'
        rw [same_eq e1]
        exact .inr (.inl ⟨rfl, _, rfl, rfl⟩)
    | _ => exact .inl (deepEq_ok R e r r')
  | ref l =>
    dsimp only at e
    cases e1 : h.get l with
    | none =>
      rw [e1] at e
      exact .inl (deepEq_ok R e r r')
    | some c =>
      rw [e1] at e
      cases c with
      | dct ks =>
        dsimp only at e
        cases w' with
        | ref l2 =>
          dsimp only at e
          cases e2 : h.get l2 with
          | none => rw [e2] at e; cases e
          | some c2 =>
            rw [e2] at e
            cases c2 with
            | dct ls =>
              dsimp only at e
              cases e3 : knodup ks && dsame ks ls with
              | false => rw [e3] at e; cases e
              | true =>
                rw [e3] at e
                cases e
                obtain ⟨z1, z2⟩ := Bool.and_eq_true_iff.mp e3
                obtain ⟨a, ha, rfl⟩ := r
                obtain ⟨a', ha', rfl⟩ := r'
                obtain ⟨_, o1, us, r1, rfl⟩ := R.see ha e1
                obtain ⟨_, o2, vs, r2, rfl⟩ := R.see ha' e2
                obtain ⟨y1, y2⟩ := dsame_ok z2 r1 r2
                subst y1
                exact .inr (.inr ⟨rfl, a, a', us, rfl, rfl, o1, o2, knodup_ok z1 r1, y2⟩)
            | _ => cases e
        | _ => cases e
      | _ => exact .inl (deepEq_ok R e r r')
  | _ => exact .inl (deepEq_ok R e r r')
theorem or_eq {k : Nat} (hr : Room k X.A) : OpR X (compareOp .Eq) (rO G oEq) := opr_of (((L2.op_eqD hr.units).or L2.op_eq).or (L2.op_eq_dict hr.units0)) fun x y H Q h => by
  obtain ⟨m, h, a, b, R, ra, rb, q⟩ := h
  unfold oEq at q
  cases e : eqB h a b with
  | none =>
    rw [e] at q
    exact q.elim
  | some t =>
    rw [e] at q
    have q' := q m H (.bl t) (.refl m) R rfl
    rcases eqB_read (K := X.K) R e ra rb with ⟨d, d', h1, h2, h3, h4, rfl⟩ | ⟨rfl, s, rfl, rfl⟩ | ⟨rfl, a, a', kvs, rfl, rfl, o1, o2, nd, fl⟩
    · exact .inl (.inl ⟨d, d', h1, h2, h3, h4, q'⟩)
    · exact .inl (.inr ⟨rfl, by rw [decide_eq_true rfl]; exact q'⟩)
    · exact .inr ⟨a, a', kvs, rfl, rfl, o1, o2, nd, fl, q'⟩
theorem or_ne {k : Nat} (hr : Room k X.A) : OpR X (compareOp .NotEq) (rO G oNe) := opr_of (((L2.op_neD hr.units).or L2.op_ne).or (L2.op_ne_dictA hr.units0)) fun x y H Q h => by
  obtain ⟨m, h, a, b, R, ra, rb, q⟩ := h
  unfold oNe at q
  cases e : eqB h a b with
  | none =>
    rw [e] at q
    exact q.elim
  | some t =>
    rw [e] at q
    have q' := q m H (.bl (!t)) (.refl m) R rfl
    rcases eqB_read (K := X.K) R e ra rb with ⟨d, d', h1, h2, h3, h4, rfl⟩ | ⟨rfl, s, rfl, rfl⟩ | ⟨rfl, a, a', kvs, rfl, rfl, o1, o2, nd, fl⟩
    · exact .inl (.inl ⟨d, d', h1, h2, h3, h4, q'⟩)
    · exact .inl (.inr ⟨rfl, by rw [decide_eq_true rfl]; exact q'⟩)
    · exact .inr ⟨a, a', kvs, kvs, rfl, rfl, o1, o2, rfl, fun p hp => ⟨L2.val_nodup nd p hp, fl p hp⟩, q'⟩
/-! ### repr -/
def fitR (d : SD) : Bool := match d.fit with
  | none => false
  | some (w, k) => Nat.ble w 80000 && Nat.ble k 64
theorem fitR_ok {d : SD} (e : fitR d = true) : ∃ w k, Fit (d.g G.ρ) w k ∧ w ≤ 80000 ∧ k ≤ 64 ∧ (d.g G.ρ).shown.length ≤ sizeLine := by
  unfold fitR at e
  cases e3 : d.fit with
  | none => rw [e3] at e; cases e
  | some p =>
    obtain ⟨w, k⟩ := p
    rw [e3] at e
    obtain ⟨z1, z2⟩ := Bool.and_eq_true_iff.mp e
    have F := SD.fit_ok (G := G) d _ _ e3
    refine ⟨w, k, F, Nat.le_of_ble_eq_true z1, Nat.le_of_ble_eq_true z2, ?_⟩
    have h := PyData.shown_le 200 (by decide) _ F.ls
    have h2 : (200 + 2) * (d.g G.ρ).weight ≤ 202 * 80000 := Nat.mul_le_mul_left _ (Nat.le_trans F.wt (Nat.le_of_ble_eq_true z1))
    rw [sizeLine_eq]
    omega
/-- the keys and the values of a dict, the values flat -/
def dkey : Sum Int (List Nat) → SD
  | .inl i => .int i
  | .inr x => .str x
def flatD : W → Option SD
  | .non => some .non
  | .bl b => some (.bl b)
  | .int i => some (.int i)
  | .sym k a c => some (.sym k a c)
  | .txt (.str x) => some (.str x)
  | _ => none
def rdd (h : AH) : W → Option SD
  | .ref l => (match h.get l with
    | some (.dct ks) => (match rds flatD (ks.map (·.2)) with
      | some vs => some (.dct (ks.map fun p => dkey p.1) vs)
      | none => none)
    | _ => none)
  | _ => none
def oRepr : OpN := fun xs h => match xs with
  | [x] => (match rd 60 h x with
    | some d => (match fitR d with
      | true => some (.txt (.rep d), h)
      | false => none)
    | none => (match rdd h x with
      | some (.dct ks vs) => (match SD.fits ks with
        | none => none
        | some (w, k) => (match SD.fits vs with
          | none => none
          | some (w', k') => (match Nat.ble (w + w') 80000 && (Nat.ble k 50 && Nat.ble k' 50) with
            | true => some (.txt (.rep (.dct ks vs)), h)
            | false => none)))
      | _ => none))
  | _ => none
theorem repr_refs {pins : List (Addr × Obj)} {σ : St} {H : Hp} {s : Shared} {Q : VK} {d : PyData} {a : Addr} {as : List Addr} (r : Reads s.heap (.ref a) d as) (hs : d.showable = true) (hsm : d.hasDict = true → sysModules ∉ as) (hg : X.A.guards = some []) (hu : X.A.units + (d.depth + 1) < cLine) (hsz : d.shown.length ≤ sizeLine) (I : Inv X pins σ H s) (q : Q (.str d.shown) H) :
    wpAny (model X.prog X.w) X.A (call (.builtin "repr") [.ref a]) (L2.EP X pins σ Q) X.xe s :=
  repr_of_reads' (h₀ := s.heap) r hs hsm hg hu (fun _ _ x => x) (fun h' u tk kp => ⟨.str d.shown, H, I.kept kp, ⟨u, rfl⟩, q⟩) hsz
theorem repr_flat {pins : List (Addr × Obj)} {σ : St} {H : Hp} {s : Shared} {Q : VK} {d : PyData} {v : V} {u : Value} (hg : X.A.guards = some []) {k : Nat} (hr : Room k X.A) (I : Inv X pins σ H s) (hd : L2.Dp X.K H v d) (ru : RelV v u) {w k' : Nat} (F : Fit d w k') (hk : k' ≤ 64) (hz : d.shown.length ≤ sizeLine) (q : Q (.str d.shown) H) :
    wpAny (model X.prog X.w) X.A (call (.builtin "repr") [u]) (L2.EP X pins σ Q) X.xe s := by
  obtain ⟨as, rr⟩ := L2.Dp.reads I d v u hd ru
  have e := hr.un
  have ref : ∀ {a : Addr}, u = .ref a → wpAny (model X.prog X.w) X.A (call (.builtin "repr") [u]) (L2.EP X pins σ Q) X.xe s := fun {a} eu => by
    subst eu
    exact repr_refs rr F.sh (PyData.noDict_hsm F.nd) hg (by have := F.dp; omega) hz I q
  cases hd with
  | non =>
    cases ru
    exact PySem.P.repr_of_none ⟨.str PyData.none.shown, H, I.tok _, ⟨s.toks, rfl⟩, q⟩
  | bl b =>
    cases ru
    refine PySem.P.repr_of_bool ⟨.str (PyData.bool b).shown, H, I.tok _, ⟨s.toks, ?_⟩, q⟩
    cases b <;> rfl
  | int i =>
    obtain ⟨t, rfl⟩ := ru
    exact PySem.P.repr_of_int (by have := F.sh; simpa only [PyData.showable, decide_eq_true_eq] using this) ⟨.str (PyData.int i).shown, H, I.tok _, ⟨s.toks, rfl⟩, q⟩
  | str x =>
    obtain ⟨t, rfl⟩ := ru
    exact PySem.P.repr_of_str ⟨.str (PyData.str x).shown, H, I.tok _, ⟨s.toks, rfl⟩, q⟩ hz
  | lst _ _ =>
    exact ref ru
  | tup _ _ =>
    exact ref ru
theorem reads_flat {m : Mp} {hp : Heap} {w : W} {d : SD} {v : V} {u : Value} (e : flatD w = some d) (r : VR G m w v) (ru : RelV v u) : Reads hp u (d.g G.ρ) [] := by
  cases w with
  | non => cases e; cases r; cases ru; exact .none
  | bl b => cases e; cases r; cases ru; exact .bool b
  | int i => cases e; cases r; obtain ⟨t, rfl⟩ := ru; exact .int i t
  | sym k a c => cases e; cases r; obtain ⟨t, rfl⟩ := ru; exact .int _ t
  | txt d =>
    cases d with
    | str x => cases e; cases r; obtain ⟨t, rfl⟩ := ru; exact .str _ t
    | _ => cases e
  | _ => cases e
theorem reads_key {hp : Heap} {k : Sum Int (List Nat)} {u : Value} (h : L2.keyIs (kof k) u = true) : Reads hp u ((dkey k).g G.ρ) [] := by
  rcases L2.keyIs_shape h with ⟨i, t, e, rfl⟩ | ⟨x, t, e, rfl⟩
  · cases k with
    | inl j =>
      cases e
      exact .int i t
    | inr j => cases e
  · cases k with
    | inl j => cases e
    | inr j =>
      cases e
      exact .str _ t
theorem reads_dct {P : Program} {w : World} {m : Mp} {hp : Heap} : ∀ {ks : List (Sum Int (List Nat) × W)} {kvs : List (L2.Key × V)} {vs : List (L2.Key × Value)} {es : List DictEntry} {ds : List SD}, KR G m ks kvs → L2.KV kvs vs → Pairs (L2.mixKind P w) es vs → rds flatD (ks.map (·.2)) = some ds →
    ReadsAll hp (es.map (·.key)) (SD.gs G.ρ (ks.map fun p => dkey p.1)) [] ∧ ReadsAll hp (es.map (·.val)) (SD.gs G.ρ ds) [] ∧ ds.length = ks.length
  | [], _, _, _, ds, .nil, .nil, .nil, e => by
    cases e
    exact ⟨.nil, .nil, rfl⟩
  | (k, w) :: r, _, _, _, ds, .cons h t, .cons h' t', .cons h1 h2 h3, e => by
    rw [List.map_cons] at e
    unfold rds at e
    cases e1 : flatD w with
    | none => rw [e1] at e; cases e
    | some d =>
      rw [e1] at e
      dsimp only at e
      cases e2 : rds flatD (r.map (·.2)) with
      | none => rw [e2] at e; cases e
      | some dr =>
        rw [e2] at e
        cases e
        obtain ⟨z1, z2, z3⟩ := reads_dct t t' h3 e2
        have hk : L2.keyIs (kof k) _ = true := (show kof k = _ from h.1.trans h'.1) ▸ h1
        have a1 := ReadsAll.cons (reads_key (G := G) hk) z1
        have a2 := ReadsAll.cons (reads_flat e1 h.2 (h2 ▸ h'.2)) z2
        exact ⟨a1, a2, congrArg Nat.succ z3⟩
theorem zip_fits : ∀ {ks vs : List PyData} {w k w' k' : Nat}, Fits ks w k → Fits vs w' k' → PyData.showableKv (ks.zip vs) = true ∧ PyData.depthKv (ks.zip vs) ≤ max k k' ∧ PyData.leavesShortKv 200 (ks.zip vs) = true ∧ PyData.weightKv (ks.zip vs) ≤ w + w'
  | [], _, _, _, _, _, _, _ => ⟨by simp [PyData.showableKv], by simp [PyData.depthKv], by simp [PyData.leavesShortKv], by simp [PyData.weightKv]⟩
  | _ :: _, [], _, _, _, _, _, _ => ⟨by simp [PyData.showableKv], by simp [PyData.depthKv], by simp [PyData.leavesShortKv], by simp [PyData.weightKv]⟩
  | a :: ks, b :: vs, w, k, w', k', F, F' => by
    obtain ⟨f1, f2, f3, f4, f5, f6⟩ := F
    obtain ⟨g1, g2, g3, g4, g5, g6⟩ := F'
    simp only [PyData.canLayAll0, PyData.weightAll, PyData.depthAll, PyData.showableAll, PyData.leavesShortAll, PyData.hasDictAll, Bool.and_eq_true, Bool.or_eq_false_iff] at f1 f2 f3 f4 f5 f6 g1 g2 g3 g4 g5 g6
    have f3' := Nat.max_le.mp f3
    have g3' := Nat.max_le.mp g3
    obtain ⟨z1, z2, z3, z4⟩ := zip_fits (ks := ks) (vs := vs) (w := PyData.weightAll ks) (k := k) (w' := PyData.weightAll vs) (k' := k') ⟨f1.2, Nat.le_refl _, f3'.2, f4.2, f5.2, f6.2⟩ ⟨g1.2, Nat.le_refl _, g3'.2, g4.2, g5.2, g6.2⟩
    refine ⟨by simp only [List.zip_cons_cons, PyData.showableKv, Bool.and_eq_true]; exact ⟨⟨f4.1, g4.1⟩, z1⟩, ?_, by simp only [List.zip_cons_cons, PyData.leavesShortKv, Bool.and_eq_true]; exact ⟨⟨f5.1, g5.1⟩, z3⟩, ?_⟩
    · simp only [List.zip_cons_cons, PyData.depthKv]
      exact Nat.max_le.mpr ⟨Nat.max_le.mpr ⟨Nat.le_trans f3'.1 (Nat.le_max_left _ _), Nat.le_trans g3'.1 (Nat.le_max_right _ _)⟩, z2⟩
    · simp only [List.zip_cons_cons, PyData.weightKv]
      omega
theorem gs_len (ρ : Nat → Int) : ∀ ds : List SD, (SD.gs ρ ds).length = ds.length
  | [] => by simp [SD.gs]
  | _ :: r => by simp [SD.gs, gs_len ρ r]
theorem rdd_read {h : AH} {w : W} {d : SD} (e : rdd h w = some d) : ∃ l ks vs, w = .ref l ∧ h.get l = some (.dct ks) ∧ rds flatD (ks.map (·.2)) = some vs ∧ d = .dct (ks.map fun p => dkey p.1) vs := by
  unfold rdd at e
  cases w with
  | ref l =>
    dsimp only at e
    cases e1 : h.get l with
    | none => rw [e1] at e; cases e
    | some c =>
      rw [e1] at e
      cases c with
      | dct ks =>
        dsimp only at e
        cases e2 : rds flatD (ks.map (·.2)) with
        | none => rw [e2] at e; cases e
        | some vs =>
          rw [e2] at e
          cases e
          exact ⟨l, ks, vs, rfl, e1, e2, rfl⟩
      | _ => cases e
  | _ => cases e
theorem cr_repr {k : Nat} (hr : Room k X.A) (hg : X.A.guards = some []) : CallR X (.builtin "repr") (rN G oRepr) := fun pins s σ H xs us Q I rx h => by
  obtain ⟨m, h, as, R, rs, q⟩ := h
  cases rs with
  | nil => exact q.elim
  | cons r t =>
    cases t with
    | cons _ _ => exact q.elim
    | nil =>
      rename_i w v
      obtain ⟨u, rfl, ru⟩ := L2.vals1 rx
      unfold oRepr at q
      dsimp only at q
      cases e : rd 60 h w with
      | some d =>
        rw [e] at q
        dsimp only at q
        cases e2 : fitR d with
        | false =>
          rw [e2] at q
          exact q.elim
        | true =>
          rw [e2] at q
          obtain ⟨w1, k1, F, _, h2, h3⟩ := fitR_ok (G := G) e2
          exact repr_flat hg hr I (rd_ok R _ _ _ _ e r) ru F h2 h3 (q m H (.str (d.g G.ρ).shown) (.refl m) R (by simp only [VR, SD.g, tx]))
      | none =>
        rw [e] at q
        dsimp only at q
        cases e2 : rdd h w with
        | none =>
          rw [e2] at q
          exact q.elim
        | some d =>
          obtain ⟨l, ks, vs, rfl, e1, e3, rfl⟩ := rdd_read e2
          rw [e2] at q
          dsimp only at q
          cases e4 : SD.fits (ks.map fun p => dkey p.1) with
          | none =>
            rw [e4] at q
            exact q.elim
          | some p =>
            obtain ⟨w1, k1⟩ := p
            rw [e4] at q
            dsimp only at q
            cases e5 : SD.fits vs with
            | none =>
              rw [e5] at q
              exact q.elim
            | some p =>
              obtain ⟨w2, k2⟩ := p
              rw [e5] at q
              dsimp only at q
              cases e6 : Nat.ble (w1 + w2) 80000 && (Nat.ble k1 50 && Nat.ble k2 50) with
              | false =>
                rw [e6] at q
                exact q.elim
              | true =>
                rw [e6] at q
                obtain ⟨y1, y2⟩ := Bool.and_eq_true_iff.mp e6
                obtain ⟨y2, y3⟩ := Bool.and_eq_true_iff.mp y2
                have y1' := Nat.le_of_ble_eq_true y1
                have y2' := Nat.le_of_ble_eq_true y2
                have y3' := Nat.le_of_ble_eq_true y3
                obtain ⟨a, ha, rfl⟩ := r
                obtain ⟨_, o1, kvs, r1, rfl⟩ := R.see ha e1
                obtain ⟨_, hs, va, rk, ob, es, ep, g1, g2, g3, g4, g5, g6⟩ := (show L2.ObjOk X.prog X.w H s.heap a (.dK kvs) from I.hok a _ o1)
                obtain ⟨x1, x2, x3⟩ := reads_dct (hp := s.heap) r1 rk g5 e3
                obtain ⟨z1, z2, z3, z4⟩ := zip_fits (SD.fits_ok (G := G) _ _ _ e4) (SD.fits_ok (G := G) _ _ _ e5)
                have hl : (SD.gs G.ρ (ks.map fun p => dkey p.1)).length = (SD.gs G.ρ vs).length := by
                  rw [gs_len, gs_len, x3, List.length_map]
                have m1 : ((SD.gs G.ρ (ks.map fun p => dkey p.1)).zip (SD.gs G.ρ vs)).map (·.1) = SD.gs G.ρ (ks.map fun p => dkey p.1) := List.map_fst_zip (Nat.le_of_eq hl)
                have m2 : ((SD.gs G.ρ (ks.map fun p => dkey p.1)).zip (SD.gs G.ρ vs)).map (·.2) = SD.gs G.ρ vs := List.map_snd_zip (Nat.le_of_eq hl.symm)
                have rr : Reads s.heap (.ref a) (.dict ((SD.gs G.ρ (ks.map fun p => dkey p.1)).zip (SD.gs G.ρ vs))) (a :: [] ++ []) := .dict g1 g2.1 g3 (m1.symm ▸ x1) (m2.symm ▸ x2)
                cases (show u = Value.ref a from ru)
                have un := hr.un
                have hsm : sysModules ∉ a :: [] ++ [] := fun z => by
                  have z' : sysModules = a := by simpa using z
                  rw [← z'] at hs
                  simp at hs
                have hsh : (PyData.dict ((SD.gs G.ρ (ks.map fun p => dkey p.1)).zip (SD.gs G.ρ vs))).showable = true := by
                  simp only [PyData.showable]
                  exact z1
                have hdp : (PyData.dict ((SD.gs G.ρ (ks.map fun p => dkey p.1)).zip (SD.gs G.ρ vs))).depth ≤ 51 := by
                  simp only [PyData.depth]
                  have : max k1 k2 ≤ 50 := Nat.max_le.mpr ⟨y2', y3'⟩
                  omega
                have hsz : (PyData.dict ((SD.gs G.ρ (ks.map fun p => dkey p.1)).zip (SD.gs G.ρ vs))).shown.length ≤ sizeLine := by
                  have hh := PyData.shown_le 200 (by decide) (.dict ((SD.gs G.ρ (ks.map fun p => dkey p.1)).zip (SD.gs G.ρ vs))) (by simp only [PyData.leavesShort]; exact z3)
                  have h2 : (200 + 2) * (PyData.dict ((SD.gs G.ρ (ks.map fun p => dkey p.1)).zip (SD.gs G.ρ vs))).weight ≤ 202 * 80000 := Nat.mul_le_mul_left _ (by simp only [PyData.weight]; omega)
                  rw [sizeLine_eq]
                  omega
                have hq := q m H (.str (PyData.dict ((SD.gs G.ρ (ks.map fun p => dkey p.1)).zip (SD.gs G.ρ vs))).shown) (.refl m) R (by simp only [VR, SD.g, tx])
                generalize PyData.dict ((SD.gs G.ρ (ks.map fun p => dkey p.1)).zip (SD.gs G.ρ vs)) = D at rr hsh hdp hsz hq
                exact repr_refs rr hsh (fun _ => hsm) hg (by omega) hsz I hq
end
end Pm
/-! PmExc0: errors over ValueError whose __init__ says super().__init__(value) and self.value = value. -/
namespace PySem
namespace TieX
open PySem.W PySem.Calls PyProof.Rows PySem.HandSPX
/-! ### ValueError.__init__ bound -/
abbrev bwV (x : Addr) : Obj := { cls := .type "method-wrapper", dict := none, data := .fields #[.builtin "ValueError.__init__", .ref x], slots := #[] }
theorem type_vi : typeOf (.builtin "ValueError.__init__") = pure (.type "wrapper_descriptor") := by show builtinType _ = _; rw [builtinType_eq_fast]; kernel_rfl
theorem nacV : (kfb_private% "nameAndClass") (Value.builtin "ValueError.__init__") = (pure (("__init__" : Str), Value.type "ValueError") : Sem (Str × Value)) := by kernel_rfl
section
variable {prog : Program} {w : World} {M : Model} {A : Around} {E : Value → Shared → Prop} {h : Heap} {g : Array GenState} {d : Drawn} {t : Nat} {os : OsState}
theorem run_wdV {x C : Addr} {P : Fin → Shared → Prop} (hin : W.Looks M h (isInstance (.ref x) (.type "ValueError")) true) (hq : P (.done (.ret (.ref h.objs.size))) ⟨h.push (bwV x), g, d, t, os⟩) :
    wpAny M A (Builtin.«wrapper_descriptor.__get__» ⟨[.builtin "ValueError.__init__", .ref x, .ref C], []⟩) P E ⟨h, g, d, t, os⟩ := by
  unfold Builtin.«wrapper_descriptor.__get__»
  refine wpAny_bind (wpAny_of_eq (a := (.builtin "ValueError.__init__", some (.ref x), some (.ref C))) (by first | rfl | kernel_rfl) ?_)
  show wpAny M A ((kfb_private% "checkInstance") (.builtin "ValueError.__init__") (.ref x) >>= fun _ => newFields "method-wrapper" [.builtin "ValueError.__init__", .ref x] >>= fun r => ret r) P E _
  refine wpAny_bind ?_
  show wpAny M A ((kfb_private% "nameAndClass") (.builtin "ValueError.__init__") >>= _) _ E _
  refine wpAny_bind (wpAny_of_eq nacV ?_)
  show wpAny M A (isInstance (.ref x) (.type "ValueError") >>= _) _ E _
  refine wpAny_bind (hin.at ?_)
  refine KFB.if_not rfl ?_
  refine wpAny_pure ?_
  exact wpAny_bind (wpAny_newObj_type (wpAny_pure hq))
theorem super_gaV {so D x C : Addr} {l₀ l : List Value} {K : Frag} {name : Str} {tk : Tok} {Q : Fin → Shared → Prop}
    (hso : h.get? so = some { cls := .type "super", dict := none, data := .fields #[.ref D, .ref x, .ref C], slots := #[] }) (hno : W.Looks (model prog w) h (opaqueClassAbove (.ref C)) none)
    (hC : W.Looks (model prog w) h (mroOf (.ref C)) l₀) (hl : (l₀.dropWhile (· != .ref D)).drop 1 = l) (X : K.In h)
    (hf : alongIn K name l = some (some (.builtin "ValueError.__init__"))) (hxC : x ≠ C) (hn : (name == ("__class__" : Str)) = false) (hin : W.Looks (model prog w) h (isInstance (.ref x) (.type "ValueError")) true)
    (hq : Q (.done (.ret (.ref h.objs.size))) ⟨h.push (bwV x), g, d, t, os⟩) :
    wpAny (model prog w) A (Builtin.«super.__getattribute__» ⟨[.ref so, .str name tk], []⟩) Q E ⟨h, g, d, t, os⟩ := by
  have hlk := ESX.slot_wd.lookup
  have hne : (Value.ref x == Value.ref C) = false := by simp [hxC]
  have hTf := type_vi
  have hTi : Shared.TypeIs ⟨h, g, d, t, os⟩ (.builtin "ValueError.__init__") "wrapper_descriptor" := type_vi
  have hdt : ({ cls := .type "super", dict := none, data := .fields #[.ref D, .ref x, .ref C], slots := #[] } : Obj).data = .fields #[.ref D, .ref x, .ref C] := rfl
  have f0 : (#[.ref D, .ref x, .ref C] : Array Value)[0]? = some (.ref D) := rfl
  have f1 : (#[.ref D, .ref x, .ref C] : Array Value)[1]? = some (.ref x) := rfl
  have f2 : (#[.ref D, .ref x, .ref C] : Array Value)[2]? = some (.ref C) := rfl
  unfold Builtin.«super.__getattribute__»
  repeat (first
    | (with_reducible refine wpAny_field hso hdt f0 ?_) | (with_reducible refine wpAny_field hso hdt f1 ?_) | (with_reducible refine wpAny_field hso hdt f2 ?_)
    | (with_reducible refine ks_wpAny_notOpaque hno ?_)
    | (with_reducible refine Looks.at hC ?_; rw [hl])
    | (refine ks_forIn_along X (fun _ _ => rfl) rfl ?_ hf)
    | (with_reducible refine wpAny_call_entry ESX.slot_wd hTi ESX.entry_wd ?_ (ESX.args_wd _ _ _))
    | (with_reducible refine run_wdV hin ?_)
    | (with_reducible refine ⟨_, rfl, ?_⟩)
    | (simp only [hn, hne, Bool.or_false, Bool.false_eq_true, if_false])
    | wp_step
    | dsimp only)
  all_goals exact hq
theorem getMethod_superV {so D x C : Addr} {l₀ l : List Value} {K : Frag} {name : Str} {pl : Sem Bool} {Q : Value × List Value → Shared → Prop}
    (hso : h.get? so = some { cls := .type "super", dict := none, data := .fields #[.ref D, .ref x, .ref C], slots := #[] }) (hno : W.Looks (model prog w) h (opaqueClassAbove (.ref C)) none)
    (hC : W.Looks (model prog w) h (mroOf (.ref C)) l₀) (hl : (l₀.dropWhile (· != .ref D)).drop 1 = l) (X : K.In h)
    (hf : alongIn K name l = some (some (.builtin "ValueError.__init__"))) (hxC : x ≠ C) (hn : (name == ("__class__" : Str)) = false) (hin : W.Looks (model prog w) h (isInstance (.ref x) (.type "ValueError")) true)
    (hq : Q (.ref h.objs.size, []) ⟨h.push (bwV x), g, d, t + 1, os⟩) :
    wpAny (model prog w) A (getMethod (.ref so) name pl) Q E ⟨h, g, d, t, os⟩ := by
  have hlk := F.ks_slot_super_ga.lookup
  have hcan := F.ks_canon_super_ga
  have hT : ∀ t', (⟨h, g, d, t', os⟩ : Shared).TypeIs (.ref so) "super" := fun _ => ⟨_, hso, rfl⟩
  unfold getMethod
  refine wpAny_bind (wpAny_specialOf (hT _) hlk ?_)
  show wpAny _ _ (if (Manifest.canonical "super.__getattribute__" != "object.__getattribute__") = true then _ else _) _ _ _
  rw [if_pos hcan]
  unfold getAttr getAttrBy
  refine wpAny_bind (wpAny_bind (wpAny_mkText (wpAny_holding (wpAny_bind (wpAny_typeOf (hT _) (wpAny_bind (wpAny_of_eq hlk ?_)))))))
  show wpAny _ _ (getAttrByItsOwn (.ref so) (.str name t) (.type "super") (.builtin "super.__getattribute__") true false) _ _ _
  unfold getAttrByItsOwn hookBefore callGetattribute boundAndCalled
  refine wpAny_bind (wpAny_of_eq (show (if onTheHeap (.type "super") then typeLookup (.type "super") "__getattr__" else pure none) = pure none from rfl) ?_)
  refine wpAny_bind (wpAny_attempt (wpAny_holding ?_))
  show wpAny _ _ (bindSpecial (.builtin "super.__getattribute__") (.ref so) >>= _) _ _ _
  refine wpAny_bind (wpAny_of_eq (F.ks_slot_super_ga.bind _) ?_)
  refine wpAny_mono (Q := fun v s' => v = .ref h.objs.size ∧ s' = ⟨h.push (bwV x), g, d, t + 1, os⟩) (E := fun _ _ => False)
    (wpAny_call_entry F.ks_slot_super_ga (hT _) F.ks_entry_super_ga (super_gaV hso hno hC hl X hf hxC hn hin ⟨_, rfl, rfl, rfl⟩) (F.ks_gaArgs_super _ _)) (fun v s' hv => ?_) fun _ _ z => z.elim
  obtain ⟨rfl, rfl⟩ := hv
  exact wpAny_pure (wpAny_pure hq)
end
section
variable {prog : Program} {w : World} {M : Model} {A : Around} {E : Value → Shared → Prop} {s : Shared}
theorem callWith_bwV {pos : Pos} {u x : Addr} {first : List Value} {args : List (Bool × Sem Value)} {Q : Value → Shared → Prop} (hplain : args.any (·.1) = false)
    (h : wpAny M A (evalArgs (.ref u) true args []) (fun a s₁ => s₁.heap.get? u = some (bwV x) ∧ wpAny M A (call (.ref u) (first ++ a.pos) a.kw) Q E s₁) E s) : wpAny M A (callWith pos (.ref u) first args []) Q E s := by
  unfold callWith
  refine wpAny_bind (wpAny_holding (wpAny_mono h (fun a s₁ h₁ => wpAny_bind (wpAny_standAt ?_)) fun _ _ x => x))
  obtain ⟨ho, hcall⟩ := h₁
  simp only [hplain, List.any_nil, Bool.or_false]
  refine wpAny_bind (m := keeperOf (.ref u)) ?_
  unfold keeperOf
  refine wpAny_bind (wpAny_load ho ?_)
  simp only [bwV, show (Value.type "method-wrapper" != Value.type "method") = true by decide, show (Value.type "method-wrapper" == Value.type "builtin_function_or_method" || Value.type "method-wrapper" == Value.type "method-wrapper") = true by decide, if_true]
  refine wpAny_pure ?_
  exact wpAny_bind (wpAny_mono hcall (fun r s₂ hr => wpAny_bind (wpAny_holding (wpAny_point (wpAny_pure hr)))) fun _ _ x => x)
theorem callWith_boundV {pos : Pos} {u x : Addr} {first : List Value} {env : Env} {e : Expr} {rest : List Expr} {Q : Value → Shared → Prop}
    (h : wpAny M A (spliced (backTo pos (starEach (e :: rest) env))) (fun vs s₁ => s₁.heap.get? u = some (bwV x) ∧ wpAny M A (call (.ref u) (first ++ vs)) Q E s₁) E s)
    (he : starEach (e :: rest) env = (false, eval e env) :: starEach rest env := by rfl) (hplain : (backTo pos (starEach rest env)).any (·.1) = false := by rfl) :
    wpAny M A (callWith pos (.ref u) first (backTo pos (starEach (e :: rest) env)) []) Q E s := by
  rw [he] at h ⊢
  refine callWith_bwV (x := x) (by show (false || (backTo pos (starEach rest env)).any (·.1)) = false; rw [hplain]; rfl) ?_
  exact evalArgs_plain h
end
section
variable {prog : Program} {w : World} {A : Around} {E : Value → Shared → Prop} {h : Heap} {g : Array GenState} {d : Drawn} {t : Nat} {os : OsState}
variable {nm q : Str} {C N : Addr} {bs bm : List Value} {hdct : Bool} {sn : List Str} {sub : List Value} {ab : Bool} {col : Option Bool} {dd : Option Addr} {k0 k1 k2 k3 k5 : Option Value}
theorem call_bwV {u e t0 : Addr} {rest : List Value} {Q : Value → Shared → Prop}
    (hC : h.get? C = some (excClassObj nm q C N bs bm hdct sn sub ab col dd k0 k1 k2 k3 k5 "ValueError.__new__")) (he : h.get? e = some (HandSPX.excO C t0)) (hu : h.get? u = some (bwV e)) (hrest : rest.length ≤ sizeLine)
    (hq : ∀ h' t1, (∀ b o, b ≠ e → h.get? b = some o → h'.get? b = some o) → h'.get? e = some (HandSPX.excO C t1) → Q .none ⟨h', g, d, t, os⟩) :
    wpAny (model prog w) A (call (.ref u) rest) Q E ⟨h, g, d, t, os⟩ := by
  refine wpAny_call (codeAny_of_tree ?_)
  show wpAny _ A.in1 (callAny (.ref u) ⟨rest, []⟩) _ _ _
  simp only [callAny]
  refine wpAny_bind (wpAny_load hu ?_)
  simp only [bwV, show (Value.type "method-wrapper" == Value.type "method" || Value.type "method-wrapper" == Value.type "builtin_function_or_method" || Value.type "method-wrapper" == Value.type "method-wrapper") = true by decide, if_true]
  refine W.KFB.if_so (by decide) ?_
  refine wpAny_bind (ESX.check_bound F.excBase_ValueError hC he rfl ?_)
  refine wpAny_bind (wpAny_pure (wpAny_pure ?_))
  refine ⟨Code.quiet_builtin _ (by decide +kernel), codeAny_builtin F.excBase_ValueError.initEntry ?_⟩
  rw [Around.under_plainId F.excBase_ValueError.init.plain _]
  wp_walk
  refine hq _ h.objs.size (fun b o hb ho => ?_) ?_
  · rw [Heap.get?_update_other _ _ (Ne.symm hb)]
    exact Heap.get?_push_of_some _ ho
  · rw [Heap.get?_update_self _ (Heap.get?_push_of_some _ he) rfl]
    rfl
end
end TieX
end PySem
/-! PmExc1: the making of such an error. -/
namespace PySem
namespace TieX
open PySem.W PySem.Calls PyProof.Rows PySem.HandSPX
/-! ### the text of __init__ -/
def iA (p1 p2 p3 : Pos) : Arguments := { posonlyargs := [], args := [{ arg := "self", annotation := none, pos := p1 }, { arg := "value", annotation := none, pos := p2 }], vararg := none, kwonlyargs := [], kw_defaults := [], kwarg := none, defaults := [.Constant .none 0 p3] }
def iB (q : Nat → Pos) : List Stmt := [.Expr (.Call (.Attribute (.Call (.Name "super" (q 0)) [] [] (q 1)) "__init__" (q 2)) [.Name "value" (q 3)] [] (q 4)) (q 5), .Assign [.Attribute (.Name "self" (q 6)) "value" (q 7)] (.Name "value" (q 8)) (q 9)]
def iS : Scope := { kind := .function, names := [(PySem.Str.ofString "self", .local), (PySem.Str.ofString "value", .local), (PySem.Str.ofString "__class__", .free), (PySem.Str.ofString "super", .globalImplicit)], isGenerator := false, isCoroutine := false, more := [] }
/-- how the call of super().__init__ is evaluated (the places are those of one line) -/
def IEv (q : Nat → Pos) : Prop := ∀ env : Env, ∃ pl : Sem Bool, eval (.Call (.Attribute (.Call (.Name "super" (q 0)) [] [] (q 1)) "__init__" (q 2)) [.Name "value" (q 3)] [] (q 4)) env = (do
  let ov ← attributeBase (.Call (.Name "super" (q 0)) [] [] (q 1)) "__init__" env (eval (.Call (.Name "super" (q 0)) [] [] (q 1)) env)
  standAt (q 2).atName
  let (f, first) ← holding [ov] (getMethod ov "__init__" pl)
  callWith (q 4) f first (backTo (q 4) (starEach [.Name "value" (q 3)] env)) [])
/-- what the written part says of such a class, at C, its __init__ at fI -/
structure TieTxt (P : Program) (K : Frag) (C fI : Addr) (qual : Str) : Prop where
  cls : ∃ nm q N bs bm sn sub ab col dd k0 k1 k2 k3 k5, K.lookup C = some (excClassObj nm q C N bs bm true sn sub ab col dd k0 k1 k2 k3 k5 "ValueError.__new__") ∧ refsVE bm = true ∧ alongIn K "__init__" bm = some (some (.builtin "ValueError.__init__"))
  sa : findIn K (.ref C) "__setattr__" = some (some (.builtin "object.__setattr__"))
  noN : findIn K (.ref C) "value" = some none
  iC : findIn K (.ref C) "__init__" = some (some (.ref fI))
  tC : typeIn K (.ref fI) = some (.type "function")
  kC : keepIn K (.ref C) = true
  op : nsIn K cStatics "thirdparty.any" = some none
  sup : nsIn K mainGlobals "super" = some none
  tops : (P.main.scope.names.lookup ("super" : Str)).isSome = false
  fn : ∃ (oc : Value) (od : Option Addr) (kV doc pm : Value) (an : Option Addr) (ct : Value) (osl : Array (Option Value)) (cc cda T : Addr) (p1 p2 p3 : Pos) (q : Nat → Pos),
    K.lookup fI = some ⟨oc, od, .func (ksFn "__init__" qual (iA p1 p2 p3) (iB q) iS (.ref T) kV doc pm an (.ref cda) ct cc), osl⟩ ∧ codeIn K (.ref cda) qual = true ∧
    (∃ ccl cdd vs ccs file tf, K.lookup cda = some ⟨ccl, cdd, .fields vs, ccs⟩ ∧ vs[2]? = some (.str file tf) ∧ ((P.main.file : Str) == file) = true) ∧
    (∃ cl cld csl, K.lookup cc = some ⟨cl, cld, .cell (some (.ref C)), csl⟩) ∧ (∃ tc td n tsl, K.lookup T = some ⟨tc, td, .seq #[.none] n, tsl⟩) ∧ IEv q
theorem iS_cell : ∀ x ∈ iS.names, x.2 ≠ .cell := by decide +kernel
theorem boot_super : bootBuiltins "super" = some (.type "super") := by first | rfl | decide +kernel | kernel_rfl
theorem one_size (v : Value) : [v].length ≤ sizeLine := by
  rw [sizeLine_eq]
  exact (by decide : 1 ≤ 16777216)
theorem kept_but {K : Frag} {h h' : Heap} {x : Addr} (X : K.In h) (hx : K.lookup x = none) (k : ∀ b o, b ≠ x → h.get? b = some o → h'.get? b = some o) : K.In h' := fun a o e =>
  k a o (fun z => by rw [z, hx] at e; cases e) (X a o e)
/-- what __init__ leaves of a fresh exception at x -/
structure InitEnd (h h' : Heap) (x C dx : Addr) (v : Value) : Prop where
  keep : ∀ b o, b ≠ x → h.get? b = some o → h'.get? b = some o
  obj : ∃ t1 : Addr, h'.get? x = some { cls := .ref C, dict := some dx, data := .fields #[.ref t1, .none, .none, .none, .bool false, .none] }
  dbig : h.objs.size ≤ dx
  dne : dx ≠ x
  ns : h'.Ns1 dx (fun y => if y = "value" then some v else none)
/-- a made one -/
structure Made (h h' : Heap) (e C d : Addr) (v : Value) : Prop where
  keep : ∀ b o, h.get? b = some o → h'.get? b = some o
  new : h.objs.size ≤ e
  obj : ∃ oe vs, h'.get? e = some oe ∧ oe.cls = .ref C ∧ oe.dict = some d ∧ oe.data = .fields vs ∧ vs[1]? = some .none
  dbig : h.objs.size ≤ d
  dne : d ≠ e
  ns : h'.Ns1 d (fun y => if y = "value" then some v else none)
section
variable {prog : Program} {w : World} {A : Around} {E : Value → Shared → Prop} {R : Result → Shared → Prop} {s : Shared} {K : Frag} {mg mb : Str → Option Value} {C fI : Addr} {qual : Str}
theorem ldN {M : Model} {s : Shared} {name : Str} {L a : Addr} {cd : Value} {cc : Addr} {m : Str → Option Value} {x : Str} {pos : Pos} {v : Value} {Q : Value → Shared → Prop} (hn : s.heap.Ns L m) (hv : m x = some v) (h : Q v s)
    (hl : iS.names.lookup x = some .local := by rfl) (hd : (x == ("__debug__" : Str)) = false := by decide) :
    wpAny M A (eval (.Name x pos) (ksEnv name iS L a cd cc)) Q E s := wpAny_Name (wpAny_loadName_local rfl hl hn hv h) hd
theorem tie_init (T : TieTxt prog K C fI qual) {x t0 : Addr} {v : Value} {args : Args} (X : K.In s.heap) (hG : s.heap.Ns mainGlobals mg) (hsup : mg "super" = none) (hB : s.heap.Ns builtinsNs mb) (hbb : mb "super" = bootBuiltins "super") (hlim : s.heap.NoLimit)
    (hx : s.heap.get? x = some (excO C t0)) (hnx : K.lookup x = none) (hroom : A.depth < recursionLimit)
    (hbind : ∀ oc od kV doc pm an ct osl cc cda T p1 p2 p3 q, K.lookup fI = some ⟨oc, od, .func (ksFn "__init__" qual (iA p1 p2 p3) (iB q) iS (.ref T) kV doc pm an (.ref cda) ct cc), osl⟩ → (∃ tc td n tsl, K.lookup T = some ⟨tc, td, .seq #[.none] n, tsl⟩) →
      BindsTo s (ksFn "__init__" qual (iA p1 p2 p3) (iB q) iS (.ref T) kV doc pm an (.ref cda) ct cc) args [("self", .ref x), ("value", v)])
    (hq : ∀ h' tk dx, InitEnd s.heap h' x C dx v → R (.ok (.ret .none)) { s with heap := h', toks := tk }) :
    codeAny (model prog w) A (.call (.ref fI) args) R s := by
  obtain ⟨oc, od, kV, doc, pm, an, ct, osl, cc, cda, Tp, p1, p2, p3, q, ho, hcd, ⟨ccl, cdd, vs, ccs, file, tf, hcode, hvs, hfile⟩, ⟨cl, cld, csl, hcell⟩, hT, hev⟩ := T.fn
  obtain ⟨nm, qn, N, bs, bm, sn, sub, ab, col, dd, k0, k1, k2, k3, k5, hC, hbm, hal⟩ := T.cls
  have hb := hbind _ _ _ _ _ _ _ _ _ _ _ _ _ _ _ ho hT
  refine ks_codeAny_call_defAt (fd := ksFn "__init__" qual (iA p1 p2 p3) (iB q) iS (.ref Tp) kV doc pm an (.ref cda) ct cc) (body := iB q) (binds := [("self", .ref x), ("value", v)]) hroom (X _ _ ho) rfl hlim (codeRec_of X hcd) rfl hb iS_cell (fun y hy => ?_) (fun h₀ hns hk => ?_)
  · rcases List.mem_cons.mp hy with rfl | hy
    · rfl
    · rcases List.mem_cons.mp hy with rfl | hy
      · rfl
      · cases hy
  · have X₀ : K.In h₀ := X.keeps hk
    have hx₀ := hk _ _ hx
    obtain ⟨cd, hcl, hcm, hch⟩ : ∃ cd, clsIn K C = some cd ∧ cd.mro = .ref C :: bm ∧ cd.hasDict = true := by
      unfold clsIn
      rw [hC]
      exact ⟨_, rfl, rfl, rfl⟩
    have hself : (fun y => ([("self", Value.ref x), ("value", v)] : List (Str × Value)).reverse.lookup y) "self" = some (.ref x) := by rfl
    have hval : (fun y => ([("self", Value.ref x), ("value", v)] : List (Str × Value)).reverse.lookup y) "value" = some v := by rfl
    show _root_.PySem.wpAt _ _ _ (execs (iB q) (ksEnv qual iS s.heap.objs.size fI (.ref cda) cc)) _ _ _
    obtain ⟨pl, he⟩ := hev (ksEnv qual iS s.heap.objs.size fI (.ref cda) cc)
    refine ks_wpAt_execs_cons (ks_wpAt_Expr_any (ks_wpAt_MethodCall (pl := pl) ?_ he))
    refine ks_wpAt_super_base (attr := "__init__") (env := ksEnv qual iS s.heap.objs.size fI (.ref cda) cc) rfl rfl (by decide) rfl (X₀ _ _ ho) rfl (ar := { arg := "self", annotation := none, pos := p1 }) rfl rfl (X₀ _ _ hcode) rfl hvs hfile T.tops ?_
    refine ks_loadName_global rfl rfl (loadGlobal_builtin (env := ksEnv qual iS s.heap.objs.size fI (.ref cda) cc) (hG.keeps hk) hsup (hB.keeps hk) (hbb.trans boot_super) ⟨rfl, ?_⟩)
    refine wpAny_loadName_free (env := ksEnv qual iS s.heap.objs.size fI (.ref cda) cc) rfl rfl (c := cc) rfl ⟨_, X₀ _ _ hcell, rfl⟩ ?_
    refine wpAny_loadName_local (env := ksEnv qual iS s.heap.objs.size fI (.ref cda) cc) rfl rfl hns hself ?_
    have hC₀ := X₀ _ _ hC
    refine ks_wpAny_isType_cls hC₀ rfl ⟨rfl, ?_⟩
    have hmro : ∀ b : Value, (Value.ref C :: bm).contains b = true → mroIn K C b = some true := fun b hbc => by
      unfold mroIn
      rw [hcl, Option.bind_some, hcm, if_neg (show ¬ (List.isEmpty (Value.ref C :: bm) = true) from Bool.false_ne_true), hbc]
    refine ks_wpAny_call_super hC₀ rfl hx₀ rfl (fun c e => nomatch e) (looks_mroIn X₀ (hmro (.ref C) (by rw [List.contains_cons]; simp))) (fun h1 e1 k1 => ?_)
    have X₁ : K.In h1 := X₀.keeps k1
    have hx₁ := k1 _ _ hx₀
    have hxC : x ≠ C := fun z => by
      rw [z, hC] at hnx
      cases hnx
    have hve : (Value.ref C :: bm).contains (.type "ValueError") = true := (refsVE_contains "ValueError" _ (show refsVE (.ref C :: bm) = true from hbm)).trans (by decide +kernel)
    have I₁ : PySem.W.InstAt h1 x (excO C t0) C none := ⟨hx₁, rfl, rfl, trivial⟩
    refine getMethod_superV e1 (looks_opaque X₁ T.op) (l₀ := .ref C :: bm) (l := bm) (hcm ▸ (looks_clsIn X₁ hcl).andThen .now) (by simp [List.dropWhile_cons]) X₁ hal hxC rfl (I₁.type.andThen (looks_mroIn X₁ (hmro _ hve))) ?_
    have X₂ : K.In (h1.push (bwV x)) := X₁.keeps fun b o e => Heap.get?_push_of_some _ e
    refine callWith_boundV (x := x) (first := []) ?_
    have k2 : ∀ b o, h₀.get? b = some o → (h1.push (bwV x)).get? b = some o := fun b o e => Heap.get?_push_of_some _ (k1 _ _ e)
    have hns2 : (h1.push (bwV x)).Ns s.heap.objs.size (fun y => ([("self", Value.ref x), ("value", v)] : List (Str × Value)).reverse.lookup y) := hns.keeps k2
    refine Calls.spliced_cons (x := eval (.Name "value" (q 3)) (ksEnv qual iS s.heap.objs.size fI (.ref cda) cc)) (ldN hns2 hval ?_)
    refine Calls.spliced_nil ?_
    refine ⟨Heap.get?_push_at rfl rfl, ?_⟩
    refine call_bwV (X₂ _ _ hC) (k2 _ _ hx₀) (Heap.get?_push_at rfl rfl) (one_size v) (fun h3 t3 k3 e3 => ?_)
    have hnx2 : ∀ b o, K.lookup b = some o → b ≠ x := fun b o e z => by
      rw [z, hnx] at e
      cases e
    have X₃ : K.In h3 := kept_but X₂ hnx k3
    have hxL : s.heap.objs.size ≠ x := Nat.ne_of_gt (Heap.lt_size hx)
    have hns3 : h3.Ns s.heap.objs.size (fun y => ([("self", Value.ref x), ("value", v)] : List (Str × Value)).reverse.lookup y) := by
      obtain ⟨o, es, ep, ho', r⟩ := hns2
      exact ⟨o, es, ep, k3 _ _ hxL ho', r⟩
    refine ks_wpAt_execs_cons (wpAt_of_wpAny ?_)
    refine plainObj_wpAny_Assign_Attribute ?_
    refine ldN hns3 hval (ldN hns3 hself ?_)
    refine set_plain X₃ (ox := excO C t3) (od := none) ⟨e3, rfl, rfl, trivial⟩ T.sa ?_
    refine exc_osa X₃ e3 hcl (hcm ▸ (show refsVE (.ref C :: bm) = true from hbm)) hch T.noN (fun h₄ tk₄ dx k₄ dn dne hx₄ hn₄ => ?_)
    refine wpAt_of_wpAny (wpAny_execs_nil (hq h₄ tk₄ dx ⟨fun b o hb e => k₄ b o hb (k3 b o hb (k2 b o (hk b o e))), ⟨t3, hx₄⟩, ?_, dne, hn₄⟩))
    have z : s.heap.objs.size < h3.objs.size := hns3.lt
    exact Nat.le_of_lt (Nat.lt_of_lt_of_le z dn)
theorem tie_made (T : TieTxt prog K C fI qual) {v : Value} (X : K.In s.heap) (hG : s.heap.Ns mainGlobals mg) (hsup : mg "super" = none) (hB : s.heap.Ns builtinsNs mb) (hbb : mb "super" = bootBuiltins "super") (hlim : s.heap.NoLimit) (hroom : A.depth + 1 < recursionLimit)
    (hq : ∀ h' tk e d, Made s.heap h' e C d v → R (.ok (.ret (.ref e))) { s with heap := h', toks := tk }) :
    codeAny (model prog w) A (.call (.ref C) ⟨[v], []⟩) R s := by
  obtain ⟨nm, q, N, bs, bm, sn, sub, ab, col, dd, k0, k1, k2, k3, k5, hC, hbm, hal⟩ := T.cls
  obtain ⟨hp, g, dr, tk, os⟩ := s
  have k : ∀ b o, hp.get? b = some o → ((hp.push (kdv_tup [v])).push (excO C hp.objs.size)).get? b = some o := fun b o e => Heap.get?_push_of_some _ (Heap.get?_push_of_some _ e)
  have hget : ((hp.push (kdv_tup [v])).push (excO C hp.objs.size)).get? (hp.objs.size + 1) = some (excO C hp.objs.size) := by heap_get
  have hnx : K.lookup (hp.objs.size + 1) = none := by
    cases e : K.lookup (hp.objs.size + 1) with
    | none => rfl
    | some o =>
      have z : hp.get? (hp.objs.size + 1) = some o := X _ _ e
      exact absurd (Nat.lt_of_succ_lt (Heap.lt_size z)) (Nat.lt_irrefl _)
  refine call_own F.excBase_ValueError (fun X => refsVE_contains X bm hbm) (X _ _ hC) (looks_findIn X T.iC) (fun self => bind_fn X self T.tC) (one_size v) ?_
  refine tie_init (v := v) (s := ⟨(hp.push (kdv_tup [v])).push (excO C hp.objs.size), g, dr, tk, os⟩) T (X.keeps k) (hG.keeps k) hsup (hB.keeps k) hbb (hlim.keeps k) hget hnx ?_ (fun _ _ _ _ _ _ _ _ _ _ _ _ _ _ _ _ hT => by
    obtain ⟨tc, td, n, tsl, hT⟩ := hT
    exact BindsTo.of_defaults rfl (X.keeps k _ _ hT) rfl rfl rfl) fun h' tk' dx ⟨k', hx, dn, dne, hns⟩ => ?_
  · show A.depth + 1 < recursionLimit
    exact hroom
  · have old : ∀ b o, hp.get? b = some o → h'.get? b = some o := fun b o e => k' b o (Nat.ne_of_lt (Nat.lt_succ_of_lt (Heap.lt_size e))) (k b o e)
    have z : hp.objs.size + 1 + 1 ≤ dx := by
      first
        | (simpa only [Heap.size_push] using dn)
        | exact dn
        | (have q := dn; rw [Heap.size_push, Heap.size_push] at q; exact q)
    obtain ⟨t1, hx⟩ := hx
    exact ⟨rfl, hq h' tk' (hp.objs.size + 1) dx ⟨old, Nat.le_succ _, ⟨_, _, hx, rfl, rfl, rfl, rfl⟩, Nat.le_trans (Nat.le_trans (Nat.le_succ _) (Nat.le_succ _)) z, dne, hns⟩⟩
end
end TieX
end PySem
/-! PmExc2: the making of such an error with value=.., and with nothing. -/
namespace PySem
namespace TieX
open PySem.W PySem.Calls PyProof.Rows PySem.HandSPX
section
variable {M : Model} {prog : Program} {w : World} {A : Around} {E : Value → Shared → Prop} {R : Result → Shared → Prop} {h : Heap} {g : Array GenState} {d : Drawn} {t : Nat} {os : OsState}
variable {nm q : Str} {C N : Addr} {bs bm bmB : List Value} {hd : Bool} {sn : List Str} {sub : List Value} {ab : Bool} {col : Option Bool} {dd : Option Addr} {k0 k1 k2 k3 k5 : Option Value} {kw : List (Str × Value)}
abbrev oC (nm q : Str) (C N : Addr) (bs bm : List Value) (hd : Bool) (sn : List Str) (sub : List Value) (ab : Bool) (col : Option Bool) (dd : Option Addr) (k0 k1 k2 k3 k5 : Option Value) : Obj := excClassObj nm q C N bs bm hd sn sub ab col dd k0 k1 k2 k3 k5 "ValueError.__new__"
theorem kw_check_call {rest : List Value} {Q : Unit → Shared → Prop} (hC : h.get? C = some (oC nm q C N bs bm hd sn sub ab col dd k0 k1 k2 k3 k5)) (z : Q () ⟨h, g, d, t, os⟩) : wpAny M A (checkBuiltinCall "type.__call__" ⟨.ref C :: rest, kw⟩) Q E ⟨h, g, d, t, os⟩ := by
  have f3 := tc_sub; have hT : (⟨h, g, d, t, os⟩ : Shared).TypeIs (.ref C) "type" := ⟨_, hC, rfl⟩
  simp only [checkBuiltinCall, tc_kind, tc_split]
  repeat (any_goals (first | with_reducible refine wpAny_loadPart_at hC ?_ | assumption | with_reducible refine wpAny_onRaise ?_ | with_reducible refine wpAny_map ?_ | wp_step))
theorem kw_check_new (hT : ∀ X : String, bm.contains (.type X) = veTail.contains (.type X)) {rest : List Value} {Q : Unit → Shared → Prop} (hC : h.get? C = some (oC nm q C N bs bm hd sn sub ab col dd k0 k1 k2 k3 k5)) (z : Q () ⟨h, g, d, t, os⟩) :
    wpAny M A (checkBuiltinCall "ValueError.__new__" ⟨.ref C :: rest, kw⟩) Q E ⟨h, g, d, t, os⟩ := by
  have F := F.excBase_ValueError; have hc : (Value.ref C :: bm).contains (.type "ValueError") = true := by rw [List.contains_cons, hT, show veTail.contains (.type "ValueError") = true by decide +kernel, Bool.or_true]
  have hs := F.noStar
  simp only [checkBuiltinCall, F.newKind, F.newSplit, F.newRow]
  repeat (first | refine wpAny_loadPart_at hC ?_ | (refine wpAny_isSubtype_exc hC ?_; rw [hc]) | refine wpAny_staticBase_exc hC ?_ | refine wpAny_madeBy_exc hC ?_ | simp only [bne_self_eq_false, Bool.false_eq_true, if_false] | wp_step)
  all_goals exact z
theorem kw_new (hT : ∀ X : String, bm.contains (.type X) = veTail.contains (.type X)) {rest : List Value} (hC : h.get? C = some (oC nm q C N bs bm hd sn sub ab col dd k0 k1 k2 k3 k5)) (hrest : rest.length ≤ sizeLine)
    (z : R (.ok (.ret (.ref (h.objs.size + 1)))) ⟨(h.push (kdv_tup rest)).push (excO C h.objs.size), g, d, t, os⟩) :
    codeAny (model prog w) A (.builtin "ValueError.__new__" ⟨.ref C :: rest, kw⟩) R ⟨h, g, d, t, os⟩ := by
  have F := F.excBase_ValueError
  have he := F.ends
  have in0 : ∀ X : String, (Value.ref C :: bm).contains (.type X) = veTail.contains (.type X) := fun X => by
    rw [List.contains_cons, hT, show (Value.type X == Value.ref C) = false by simp, Bool.false_or]
  have c1 := (in0 "ValueError").trans (show veTail.contains (.type "ValueError") = true by decide +kernel)
  have c2 := (in0 "AttributeError").trans (show veTail.contains (.type "AttributeError") = false by decide +kernel)
  have c3 := (in0 "NameError").trans (show veTail.contains (.type "NameError") = false by decide +kernel)
  refine codeAny_builtinAt F.entry ?_
  unfold Builtin.«BaseException.__new__»
  refine wpAt_bind (?_ : wpAt _ _ _ (stack >>= _) _ _ _)
  refine wpAt_bind (wpAt_stack fun p below => wpAt_of_wpAny ?_)
  wp_walk
  refine wpAt_of_wpAny ?_; rw [F.owner]
  repeat (first | with_reducible refine wpAny_madeHere_exc F.canon hC ?_ | with_reducible refine wpAny_loadPart_at hC ?_ | (with_reducible refine wpAny_isSubtype_exc hC ?_; first | rw [c1] | rw [c2] | rw [c3]) | wp_step)
  show R _ _; rw [Heap.size_push]; exact z
theorem kw_type_call (hT : ∀ X : String, bm.contains (.type X) = veTail.contains (.type X)) {rest : List Value} {fI : Addr} {Q : Fin → Shared → Prop} (hC : h.get? C = some (oC nm q C N bs bm hd sn sub ab col dd k0 k1 k2 k3 k5)) (hrest : rest.length ≤ sizeLine)
    (hi : W.Looks (model prog w) h (typeLookup (.ref C) "__init__") (some (.ref fI))) (hb : ∀ self, W.Looks (model prog w) h (bindSpecial (.ref fI) self) (.ref fI, [self]))
    (z : codeAny (model prog w) A (.call (.ref fI) ⟨.ref (h.objs.size + 1) :: rest, kw⟩) (fun r s' => match r with | .ok (.ret v) => v = .none ∧ Q (.done (.ret (.ref (h.objs.size + 1)))) s' | .ok _ => False | .error e => E e s') ⟨(h.push (kdv_tup rest)).push (excO C h.objs.size), g, d, t, os⟩) :
    wpAny (model prog w) A (Builtin.«type.__call__» ⟨.ref C :: rest, kw⟩) Q E ⟨h, g, d, t, os⟩ := by
  have F := F.excBase_ValueError
  repeat (first | with_reducible refine wpAny_madeBy_exc hC ?_ | with_reducible refine wpAny_loadPart_at hC ?_ | wp_step)
  refine codeAny_call_builtin_code (Code.quiet_builtin _ F.quiet) (kw_check_new hT hC (kw_new hT hC hrest ?_))
  show wpAny _ _ _ _ _ _
  have up : ∀ b o, h.get? b = some o → ((h.push (kdv_tup rest)).push (excO C h.objs.size)).get? b = some o := fun b o e => Heap.get?_push_of_some _ (Heap.get?_push_of_some _ e)
  have g1 : ((h.push (kdv_tup rest)).push (excO C h.objs.size)).get? (h.objs.size + 1) = some (excO C h.objs.size) := by heap_get
  have g2 := up _ _ hC
  have g3 : (Value.ref C :: bm).contains (.ref C) = true := by simp
  unfold isInstance
  repeat (first | with_reducible refine wpAny_loadPart_at g1 ?_ | (with_reducible refine wpAny_isSubtype_exc g2 ?_; rw [g3]) | wp_step)
  refine (hi.keeps up).at (?_ : wpAny _ _ _ _ _ _)
  refine wpAny_holding (wpAny_bind (((hb (.ref (h.objs.size + 1))).keeps up).at ?_))
  refine wpAny_bind (wpAny_call (codeAny_mono z fun r s' y => ?_))
  rcases r with e | (v | _ | _ | _) <;> first | exact y | exact y.elim | skip
  obtain ⟨rfl, y⟩ := y
  first | exact wpAny_pure (wpAny_pure y) | (wp_walk; exact y)
theorem kw_call (hT : ∀ X : String, bm.contains (.type X) = veTail.contains (.type X)) {rest : List Value} {fI : Addr} (hC : h.get? C = some (oC nm q C N bs bm hd sn sub ab col dd k0 k1 k2 k3 k5)) (hrest : rest.length ≤ sizeLine)
    (hi : W.Looks (model prog w) h (typeLookup (.ref C) "__init__") (some (.ref fI))) (hb : ∀ self, W.Looks (model prog w) h (bindSpecial (.ref fI) self) (.ref fI, [self]))
    (z : codeAny (model prog w) (A.under (.builtin "type.__call__" ⟨.ref C :: rest, kw⟩)) (.call (.ref fI) ⟨.ref (h.objs.size + 1) :: rest, kw⟩) (InitBack (h.objs.size + 1) R) ⟨(h.push (kdv_tup rest)).push (excO C h.objs.size), g, d, t, os⟩) :
    codeAny (model prog w) A (.call (.ref C) ⟨rest, kw⟩) R ⟨h, g, d, t, os⟩ := by
  have f1 := tc_lookup; have f2 := tc_bind (.ref C)
  have hTy : (⟨h, g, d, t, os⟩ : Shared).TypeIs (.ref C) "type" := ⟨_, hC, rfl⟩
  refine codeAny_of_tree (?_ : wpAny _ _ (callAny (.ref C) _) _ _ _)
  repeat (any_goals (first | with_reducible refine wpAny_loadPart_at hC ?_ | assumption | wp_step))
  refine ⟨rfl, codeAny_call_builtin_at (Code.quiet_builtin _ (by decide +kernel)) entry_typeCall (kw_check_call hC (kw_type_call hT hC hrest hi hb ?_))⟩
  refine codeAny_mono z fun r s' y => ?_
  rcases r with e | (v | _ | _ | _) <;> exact y
/-- the three ways of making one -/
theorem tie_made3 {s : Shared} {K : Frag} {mg mb : Str → Option Value} {fI : Addr} {qual : Str} (T : TieTxt prog K C fI qual) {v : Value} {rest : List Value} (hw : (rest = [v] ∧ kw = []) ∨ (rest = [] ∧ kw = [(("value" : Str), v)]) ∨ (rest = [] ∧ kw = [] ∧ v = .none))
    (X : K.In s.heap) (hG : s.heap.Ns mainGlobals mg) (hsup : mg "super" = none) (hB : s.heap.Ns builtinsNs mb) (hbb : mb "super" = bootBuiltins "super") (hlim : s.heap.NoLimit) (hroom : A.depth + 1 < recursionLimit)
    (hdep : (A.under (.builtin "type.__call__" ⟨.ref C :: rest, kw⟩)).depth = A.depth + 1) (hq : ∀ h' tk e d, Made s.heap h' e C d v → R (.ok (.ret (.ref e))) { s with heap := h', toks := tk }) :
    codeAny (model prog w) A (.call (.ref C) ⟨rest, kw⟩) R s := by
  obtain ⟨nm, q, N, bs, bm, sn, sub, ab, col, dd, k0, k1, k2, k3, k5, hC, hbm, hal⟩ := T.cls
  obtain ⟨hp, g, dr, tk, os⟩ := s
  have up : ∀ b o, hp.get? b = some o → ((hp.push (kdv_tup rest)).push (excO C hp.objs.size)).get? b = some o := fun b o e => Heap.get?_push_of_some _ (Heap.get?_push_of_some _ e)
  have g1 : ((hp.push (kdv_tup rest)).push (excO C hp.objs.size)).get? (hp.objs.size + 1) = some (excO C hp.objs.size) := by heap_get
  have hnx : K.lookup (hp.objs.size + 1) = none := by
    cases e : K.lookup (hp.objs.size + 1) with
    | none => rfl
    | some o => exact absurd (Nat.lt_of_succ_lt (Heap.lt_size (X _ _ e : hp.get? (hp.objs.size + 1) = some o))) (Nat.lt_irrefl _)
  have hrest : rest.length ≤ sizeLine := by
    rcases hw with ⟨rfl, _⟩ | ⟨rfl, _⟩ | ⟨rfl, _⟩
    · exact one_size v
    · exact Nat.zero_le _
    · exact Nat.zero_le _
  refine kw_call (fun X => refsVE_contains X bm hbm) (X _ _ hC) hrest (looks_findIn X T.iC) (fun self => bind_fn X self T.tC) ?_
  refine tie_init (v := v) (s := ⟨(hp.push (kdv_tup rest)).push (excO C hp.objs.size), g, dr, tk, os⟩) T (X.keeps up) (hG.keeps up) hsup (hB.keeps up) hbb (hlim.keeps up) g1 hnx (by rw [hdep]; exact hroom) (fun _ _ _ _ _ _ _ _ _ _ _ _ _ _ _ _ hT => ?_) fun h' tk' dx ⟨k', hx, dn, dne, hns⟩ => ?_
  · obtain ⟨tc, td, n, tsl, hT⟩ := hT
    have hT' := X.keeps up _ _ hT
    rcases hw with ⟨rfl, rfl⟩ | ⟨rfl, rfl⟩ | ⟨rfl, rfl, rfl⟩
    · exact BindsTo.of_defaults rfl hT' rfl rfl rfl
    · exact BindsTo.of_defaults rfl hT' rfl rfl rfl
    · exact BindsTo.of_defaults rfl hT' rfl rfl rfl
  · have old : ∀ b o, hp.get? b = some o → h'.get? b = some o := fun b o e => k' b o (Nat.ne_of_lt (Nat.lt_succ_of_lt (Heap.lt_size e))) (up b o e)
    have y : hp.objs.size + 1 + 1 ≤ dx := by
      first | (simpa only [Heap.size_push] using dn) | exact dn
    obtain ⟨t1, hx⟩ := hx
    exact ⟨rfl, hq h' tk' (hp.objs.size + 1) dx ⟨old, Nat.le_succ _, ⟨_, _, hx, rfl, rfl, rfl, rfl⟩, Nat.le_trans (Nat.le_trans (Nat.le_succ _) (Nat.le_succ _)) y, dne, hns⟩⟩
end
end TieX
end PySem
/-! PmExc: errors as values: made, asked for their class, read; raised. -/
namespace PySem.TieX
open PySem.W PySem.Calls PyProof.Rows PySem.HandSPX
section
variable {prog : Program} {w : World} {A : Around} {E : Value → Shared → Prop} {s : Shared} {K : Frag} {x D : Addr} {ox : Obj} {od : Option Obj}
/-- e.__class__, whatever dict e has -/
theorem class_of {Q : Option Value → Shared → Prop} (T : L2.ExcC K D) (X : K.In s.heap) (I : InstAt s.heap x ox D od) (h : Q (some (.ref D)) { s with toks := s.toks + 1 }) : wpAny (model prog w) A (getAttr? (.ref x) "__class__") Q E s := by
  obtain ⟨cd, hc, _⟩ := any_some T.hd
  have hf : findObj K D od "__class__" = some (.bind (.builtin "getset_descriptor.__get__") (.builtin "object.__class__")) := by
    unfold findObj; rw [hc, Option.bind_some, T.ha, Option.bind_some]
    simp [T.hn, T.ht]
  obtain ⟨hp, g, d, t, os⟩ := s
  have a0 := I.type (M := model prog w)
  have a1 := looks_findIn (M := model prog w) X T.hg
  have a2 := looks_findIn (M := model prog w) X T.hk
  have a3 := looks_find (M := model prog w) X I hf
  have sub : Looks (model prog w) hp (isInstance (.ref x) (.type "BaseException")) true := a0.andThen (looks_subIn X T.hs)
  have n2 : (Value.builtin "BaseException.__getattribute__" == Value.builtin "object.__getattribute__") = false := by decide +kernel
  have n1 : (onTheHeap (Value.ref D) && Value.builtin "BaseException.__getattribute__" == Value.builtin "object.__getattribute__") = false := by rw [n2]; rfl
  have n0 : (false && onTheHeap (Value.builtin "BaseException.__getattribute__")) = false := rfl
  unfold getAttr? getAttrBy? getAttrBy
  refine wpAny_bind (wpAny_mkText (wpAny_bind (wpAny_attempt (wpAny_holding (wpAny_bind (a0.at (wpAny_bind (a1.at ?_))))))))
  show wpAny _ _ (if (onTheHeap (Value.ref D) && Value.builtin "BaseException.__getattribute__" == Value.builtin "object.__getattribute__") = true then _ else _) _ _ _
  rw [n1, if_neg Bool.false_ne_true]
  unfold getAttrByItsOwn hookBefore
  refine wpAny_bind ?_; rw [if_pos (show onTheHeap (Value.ref D) = true from rfl)]
  refine a2.at (wpAny_bind (wpAny_attempt (wpAny_holding ?_)))
  unfold callGetattribute; rw [n0, if_neg Bool.false_ne_true]
  unfold boundAndCalled; rw [PySem.F.excAttr_ValueError.ga.bind (.ref x)]
  refine wpAny_bind (wpAny_pure (?_ : wpAny _ _ (call (.builtin "BaseException.__getattribute__") [.ref x, .str "__class__" t]) _ _ _))
  refine wpAny_call (codeAny_call_builtin PySem.F.excAttr_ValueError.ga.plain PySem.F.entry_bexc_ga ?_)
  refine @check_slot (model prog w) _ _ ⟨hp, g, d, t + 1, os⟩ "BaseException.__getattribute__" "BaseException" "__getattribute__" (.ref x) [.str "__class__" t] [] _ (by decide +kernel) (by decide +kernel) sub (PySem.F.args_bexc_ga (.ref x) (.str "__class__" t)) ?_
  unfold Builtin.«object.__getattribute__»
  refine wpAny_bind (wpAny_of_eq (a := ((Value.ref x : Value), [Value.str "__class__" t])) (by first | rfl | (simp only [slotArgs]; rfl)) ?_)
  refine wpAny_bind (wpAny_pure (wpAny_bind (a0.at (wpAny_bind (a3.at ?_)))))
  show wpAny _ _ (holding [Value.builtin "object.__class__"] (call (.builtin "getset_descriptor.__get__") [.builtin "object.__class__", .ref x, .ref D]) >>= ret) _ _ _
  refine wpAny_bind (wpAny_holding (wpAny_call (class_get (s := ⟨hp, g, d, t + 1, os⟩) (ox := ox) (od := od) X I T.hm (wpAny_pure ?_))))
  show wpAny _ _ (handedOut (.ref D)) _ _ _
  rw [handedOut_of (v := .ref D) rfl]
  first | exact wpAny_pure (wpAny_pure h) | exact wpAny_pure h | exact wpAny_pure (wpAny_bind (wpAny_pure (wpAny_pure h)))
theorem kit_exc (T : L2.ExcC K D) : KitX K (.ref x) (.ref D) (fun h => ∃ ox od, InstAt h x ox D od) := by
  obtain ⟨cd, hc, _⟩ := any_some T.hd
  obtain ⟨c', d', sl', ho⟩ : ∃ c' d' sl', K.lookup D = some ⟨c', d', .cls cd, sl'⟩ := by
    unfold clsIn at hc
    split at hc
    · cases hc
      exact ⟨_, _, _, by assumption⟩
    · cases hc
  exact {
    ty := fun _ _ _ ⟨_, _, I⟩ => I.type
    it := fun _ _ X _ A' Q' E' s' k q => by
      unfold isType loadHead
      exact wpAny_bind (wpAny_loadPart (k _ _ (X _ _ ho)) (wpAny_pure q))
    ne := fun h tp dd its n sl X htp => Bool.eq_false_iff.mpr fun q => by
      have e : D = tp := Value.ref.inj (beq_iff_eq.mp q)
      subst e
      have z := (X _ _ ho).symm.trans htp
      cases z
    ca := fun X ⟨_, _, I⟩ k => class_of T X I k }
end
end PySem.TieX
namespace Pm
open PySem PySem.Spec
open L2 (V Hp HO Cx Inv PE PT PA PS PSs PW TE TT TA TS St VK XK WX Ends RelV Vals upd upd_same upd_ne Takes R2 OpR CallR MtR tOp tVar Vis Gl Room Binds)
section
variable {X : Cx} {G : Gx} {Z : WX} {pos : Pos}
/-! ### made -/
def oMk (c : Nat) : Op1 := fun v h => some (.ref (h.n + 1), (h.new (.xd v)).new (.exc c h.n))
theorem excO_ok {P : Program} {w : World} {H : Hp} {h : Heap} {a : Addr} {cls : Value} {d : Option Addr} {oe : Obj} {vs : Array Value} (e : h.get? a = some oe) (z : L2.Zc cls d oe) (hd : oe.data = .fields vs) : L2.ObjOk P w H h a (ExcO cls d a) :=
  ⟨⟨oe, vs, e, z, hd⟩, ⟨oe, e⟩, fun h1 h2 q k => by
    obtain ⟨o1, v1, e1, z1, d1⟩ := q
    exact ⟨o1, v1, k _ e1, z1, d1⟩⟩
theorem relO_value {v : V} {u : Value} (r : RelV v u) (f : Str) : L2.RelO (List.lookup f [(("value" : Str), v)]) (if f = "value" then some u else none) := by
  by_cases e : f = "value"
  · subst e
    rw [if_pos rfl, show List.lookup ("value" : Str) [(("value" : Str), v)] = some v by simp [List.lookup]]
    exact r
  · rw [if_neg e, show List.lookup f [(("value" : Str), v)] = none by simp [List.lookup, show (f == ("value" : Str)) = false by simpa using e]]
    trivial
open PySem.TieX in
theorem made_inv {pins : List (Addr × Obj)} {σ : St} {H : Hp} {hp h' : Heap} {g : Array GenState} {dr : Drawn} {t tk : Nat} {os : OsState} {e C d : Addr} {u : Value} {v : V} (I : Inv X pins σ H ⟨hp, g, dr, t, os⟩) (M : Made hp h' e C d u) (r : RelV v u) :
    H d = none ∧ (upd H d (.xd [(("value" : Str), v)])) e = none ∧ ∃ G' : Heap, Inv X pins σ (upd H d (.xd [(("value" : Str), v)])) ⟨G', g, dr, tk, os⟩ ∧ (∀ b o, G'.get? b = some o → h'.get? b = some o) ∧ G'.get? e = none ∧
      Inv X pins σ (upd (upd H d (.xd [(("value" : Str), v)])) e (ExcO (.ref C) (some d) e)) ⟨h', g, dr, tk, os⟩ := by
  obtain ⟨oe, fv, e1, e2, e3, e4, e5⟩ := M.obj
  obtain ⟨G', g1, g2⟩ := L2.restrict h' fun b => decide (b ≠ e)
  have gk : ∀ b, b ≠ e → G'.get? b = h'.get? b := fun b hb => g1 b (decide_eq_true hb)
  have ge : G'.get? e = none := g2 e (by simp)
  have old : ∀ b o, hp.get? b = some o → G'.get? b = some o := fun b o q => (gk b (Nat.ne_of_lt (Nat.lt_of_lt_of_le (Heap.lt_size q) M.new))).trans (M.keep b o q)
  have up : ∀ b o, G'.get? b = some o → h'.get? b = some o := fun b o q => by
    by_cases hb : b = e
    · rw [hb, ge] at q
      cases q
    · exact (gk b hb).symm.trans q
  have ob : L2.ObjOk X.prog X.w (upd H d (.xd [(("value" : Str), v)])) G' d (.xd [(("value" : Str), v)]) := ⟨_, M.ns.at (fun o q => (gk d M.dne).trans q), fun f => relO_value r f⟩
  have J : Inv X pins σ (upd H d (.xd [(("value" : Str), v)])) ⟨G', g, dr, tk, os⟩ := I.laid (t' := tk) old M.dbig ob
  have nd : H d = none := I.hok.fresh M.dbig
  have ne : (upd H d (.xd [(("value" : Str), v)])) e = none := by
    rw [upd_ne (Ne.symm M.dne)]
    exact I.hok.fresh M.new
  exact ⟨nd, ne, G', J, up, ge, J.laidN (h' := h') (t' := tk) up ge ne (excO_ok e1 ⟨e2, e3⟩ e4)⟩
/-- the two new objects -/
theorem mk_sat {m : Mp} {h : AH} {H : Hp} {Q : VK} {E : XK} {c : Nat} {w : W} {v : V} {d e : Addr} (R : Rel G m h H) (r : VR G m w v) (nd : H d = none) (ne : (upd H d (.xd [(("value" : Str), v)])) e = none) (q : Sat G m E (VR G) (ofO (oMk c w h)) Q) :
    Q (.ref e) (upd (upd H d (.xd [(("value" : Str), v)])) e (ExcO (.ref (G.ga c)) (some d) e)) := by
  have R1 : Rel G (m.snoc d) (h.new (.xd w)) (upd H d (.xd [(("value" : Str), v)])) := R.new nd ⟨v, r.mono (m.le_snoc d), rfl⟩
  have at1 : (m.snoc d).as[h.n]? = some d := by
    show (m.as ++ [d])[h.n]? = some d
    rw [← R.len]
    exact List.getElem?_concat_length
  have R2 := R1.new (c := .exc c h.n) ne ⟨d, ((m.snoc d).le_snoc e).at at1, rfl⟩
  refine q _ _ _ ((m.le_snoc d).trans ((m.snoc d).le_snoc e)) R2 ⟨e, ?_, rfl⟩
  show ((m.snoc d).as ++ [e])[h.n + 1]? = some e
  rw [show h.n + 1 = (m.snoc d).as.length from R1.len.symm]
  exact List.getElem?_concat_length
section
variable {k : Nat} {c : Nat} {fI : Addr} {qual x : Str} {p : Pos}
open PySem.TieX in
/-- the call that makes one, any of the three ways -/
theorem mk_call {pins : List (Addr × Obj)} {σ : St} {H : Hp} {s : Shared} {Q : VK} {us : List Value} {kw : List (Str × Value)} {u : Value} {v : V} (T : TieTxt X.prog X.K (G.ga c) fI qual) (hsup : X.mg "super" = none) (hr : Room k X.A) (I : Inv X pins σ H s) (r : RelV v u)
    (hw : (us = [u] ∧ kw = []) ∨ (us = [] ∧ kw = [(("value" : Str), u)]) ∨ (us = [] ∧ kw = [] ∧ u = .none)) (q : ∀ d e, H d = none → (upd H d (.xd [(("value" : Str), v)])) e = none → Q (.ref e) (upd (upd H d (.xd [(("value" : Str), v)])) e (ExcO (.ref (G.ga c)) (some d) e))) :
    wpAny (model X.prog X.w) X.A (call (.ref (G.ga c)) us kw) (L2.EP X pins σ Q) X.xe s := by
  obtain ⟨hp, g, dr, tk, os⟩ := s
  obtain ⟨mb, b1, b2⟩ := I.mod.blt
  refine wpAny_call (tie_made3 T hw I.kIn (I.mod.glob.keeps I.bk) hsup (b1.keeps I.bk) (b2 _ (by decide)) I.nolimit (by have := hr.dp; omega) L2.make_depth fun h' tk' e d M => ?_)
  obtain ⟨nd, ne, _, _, _, _, J⟩ := made_inv (tk := tk') I M r
  exact ⟨.ref e, _, J, rfl, q d e nd ne⟩
theorem pm_mk {e : Expr} {ge : EM} (T : PySem.TieX.TieTxt X.prog X.K (G.ga c) fI qual) (hsup : X.mg "super" = none) (hr : Room k X.A) (hg : Gl X x) (hm : X.mg x = some (.ref (G.ga c))) (ha : PE X e (tE G Z ge)) (hdb : (x == ("__debug__" : Str)) = false := by decide)
    (he : starEach [e] X.env = (false, eval e X.env) :: starEach [] X.env := by rfl) : PE X (.Call (.Name x p) [e] [] pos) (tE G Z (eOp1 (oMk c) ge)) := by
  refine ⟨fun pins s σ H Q I h => wpAny_Call_Name_kw (L2.ld_glob I hg hm ?_ hdb)⟩
  have h2 : tE G Z ge σ H fun x H1 => rU G (oMk c) x H1 Q := op1_read h
  have h3 : L2.tCons (tE G Z ge) L2.tNil σ H fun xs H1 => ∃ x, xs = [x] ∧ rU G (oMk c) x H1 Q := tE_imp h2 fun x H1 z => ⟨x, rfl, z⟩
  refine PySem.W.callWith_K (h₀ := X.base) I.ok.mod.kin T.kC (L2.thn ((L2.pa_cons ha L2.pa_nil he).run pos pins s σ H _ I h3) fun us s1 z => ?_) he (by rfl)
  obtain ⟨vs, H1, I1, r1, x', rfl, m, h', a, R, ra, q⟩ := z
  obtain ⟨u, rfl, ru⟩ := L2.vals1 r1
  exact ⟨I1.kIn, mk_call T hsup hr I1 ru (.inl ⟨rfl, rfl⟩) fun d e nd ne => mk_sat R ra nd ne q⟩
theorem pm_mk0 (T : PySem.TieX.TieTxt X.prog X.K (G.ga c) fI qual) (hsup : X.mg "super" = none) (hr : Room k X.A) (hg : Gl X x) (hm : X.mg x = some (.ref (G.ga c))) (hdb : (x == ("__debug__" : Str)) = false := by decide) : PE X (.Call (.Name x p) [] [] pos) (tE G Z (eOp1 (oMk c) (eC .non))) := by
  refine ⟨fun pins s σ H Q I h => wpAny_Call_Name_kw (L2.ld_glob I hg hm ?_ hdb)⟩
  obtain ⟨m, h', sl, R, S, q⟩ := h
  exact PySem.W.callWith_K0 I.kIn T.kC (mk_call (v := .non) (u := .none) T hsup hr I rfl (.inr (.inr ⟨rfl, rfl, rfl⟩)) fun d e nd ne => mk_sat (w := .non) R rfl nd ne q)
theorem pm_mkK {e : Expr} {ge : EM} {kp : Pos} (T : PySem.TieX.TieTxt X.prog X.K (G.ga c) fI qual) (hsup : X.mg "super" = none) (hr : Room k X.A) (hg : Gl X x) (hm : X.mg x = some (.ref (G.ga c))) (ha : PE X e (tE G Z ge)) (hdb : (x == ("__debug__" : Str)) = false := by decide)
    (hall : (backToKw pos (keywordEach [⟨some "value", e, kp⟩] X.env)).all (·.1.isSome) = true := by rfl) (hks : (backToKw pos (keywordEach [⟨some "value", e, kp⟩] X.env)).filterMap (·.1) = [("value" : Str)] := by rfl)
    (hpl : ((backTo pos (starEach [] X.env)).any (·.1) || (backToKw pos (keywordEach [⟨some "value", e, kp⟩] X.env)).any (·.1.isNone)) = false := by rfl) : PE X (.Call (.Name x p) [] [⟨some "value", e, kp⟩] pos) (tE G Z (eOp1 (oMk c) ge)) := by
  refine ⟨fun pins s σ H Q I h => wpAny_Call_Name_kw (L2.ld_glob I hg hm ?_ hdb)⟩
  have h2 : tE G Z ge σ H fun x H1 => rU G (oMk c) x H1 Q := op1_read h
  have h3 : L2.tCons (tE G Z ge) L2.tNil σ H fun xs H1 => ∃ x, xs = [x] ∧ rU G (oMk c) x H1 Q := tE_imp h2 fun x H1 z => ⟨x, rfl, z⟩
  refine PySem.W.callWith_KW0 (h₀ := X.base) I.ok.mod.kin T.kC hall (L2.thn ((L2.pk_cons ha L2.pk_nil).run pos pins s σ H _ I h3) fun us s1 z => ?_) hpl
  obtain ⟨vs, H1, I1, r1, x', rfl, m, h', a, R, ra, q⟩ := z
  obtain ⟨u, rfl, ru⟩ := L2.vals1 r1
  rw [hks]
  exact ⟨I1.kIn, mk_call T hsup hr I1 ru (.inr (.inl ⟨rfl, rfl⟩)) fun d e nd ne => mk_sat R ra nd ne q⟩
/-! ### raised -/
def mMk (c : Nat) (ge : EM) : Sl → AH → Res (Nat × Loc) := fun σ h => (ge σ h).bind fun v h1 => .ok (c, h1.n) (h1.new (.xd v))
open PySem.TieX in
theorem pms_raise {e : Expr} {ge : EM} {p2 : Pos} (T : TieTxt X.prog X.K (G.ga c) fI qual) (hsup : X.mg "super" = none) (hexc : PySem.W.subIn X.K (.ref (G.ga c)) (.type "BaseException") = some true) (htyp : PySem.W.typeIn X.K (.ref (G.ga c)) = some (.type "type")) (hcalm : X.calm = true) (tk : Takes X Z)
    (hr : Room k X.A) (hg : Gl X x) (hm : X.mg x = some (.ref (G.ga c))) (ha : PE X e (tE G Z ge)) (hdb : (x == ("__debug__" : Str)) = false := by decide)
    (he : starEach [e] X.env = (false, eval e X.env) :: starEach [] X.env := by rfl) : PS X (.Raise (some (.Call (.Name x p) [e] [] pos)) none p2) (tS G Z (sRaise (mMk c ge))) := by
  refine ps_of (L2.ps_raise (t := fun σ H Q => tE G Z ge σ H fun v H1 => ∀ d, H1 d = none → Q (.ref (G.ga c)) (some d) (upd H1 d (.xd [(("value" : Str), v)]))) hcalm tk fun pins s σ H Q I h => ?_) fun D σ H h => ?_
  · refine wpAny_Call_Name_kw (L2.ld_glob I hg hm ?_ hdb)
    have h3 : L2.tCons (tE G Z ge) L2.tNil σ H fun xs H1 => ∃ v, xs = [v] ∧ ∀ d, H1 d = none → Q (.ref (G.ga c)) (some d) (upd H1 d (.xd [(("value" : Str), v)])) := tE_imp h fun x H1 z => ⟨x, rfl, z⟩
    refine PySem.W.callWith_K (h₀ := X.base) I.ok.mod.kin T.kC (L2.thn ((L2.pa_cons ha L2.pa_nil he).run pos pins s σ H _ I h3) fun us s1 z => ?_) he (by rfl)
    obtain ⟨vs, H1, I1, r1, v, rfl, q⟩ := z
    obtain ⟨u, rfl, ru⟩ := L2.vals1 r1
    refine ⟨I1.kIn, ?_⟩
    obtain ⟨hp, g, dr, tk', os⟩ := s1
    obtain ⟨mb, b1, b2⟩ := I1.mod.blt
    refine wpAny_call (tie_made3 (v := u) T (.inl ⟨rfl, rfl⟩) I1.kIn (I1.mod.glob.keeps I1.bk) hsup (b1.keeps I1.bk) (b2 _ (by decide)) I1.nolimit (by have := hr.dp; omega) L2.make_depth fun h' tk2 e d M => ?_)
    obtain ⟨oe, fv, e1, e2, e3, e4, e5⟩ := M.obj
    obtain ⟨nd, ne, G', J, up, ge', _⟩ := made_inv (tk := tk2) I1 M ru
    exact ⟨e, oe, fv, ⟨G', g, dr, tk2, os⟩, _, .ref (G.ga c), some d, rfl, J, up, ge', e1, ⟨e2, e3⟩, e4, e5, ne, rfl, I1.bare, L2.raises_own hexc htyp, q d nd⟩
  · obtain ⟨m, h, s, R, S, q⟩ := h
    refine ⟨m, h, s, R, S, ?_⟩
    unfold sRaise mMk at q
    cases e1 : ge s h with
    | no =>
      rw [e1] at q
      exact q.elim
    | exc c' d' h' =>
      rw [e1] at q
      exact fun m' H' ad l R' ea => q m' σ H' ad l R' (S.mono l) ea
    | ok v h1 =>
      rw [e1] at q
      intro m' H' b l R' rb d nd
      refine q (m'.snoc d) σ _ d (l.trans (m'.le_snoc d)) (R'.new nd ⟨b, rb.mono (m'.le_snoc d), rfl⟩) (S.mono (l.trans (m'.le_snoc d))) ?_
      show (m'.as ++ [d])[h1.n]? = some d
      rw [← R'.len]
      exact List.getElem?_concat_length
end
/-! ### asked for their class -/
/-- what the classes of the program say of each other: anc c are c and its own ancestors -/
structure Anc (K : PySem.W.Frag) (ga : Nat → Addr) (n : Nat) (anc : Nat → List Nat) : Prop where
  own : ∀ a < n, ∀ b < n, PySem.W.kitOne K (.ref (ga a)) (.ref (ga b)) = some ((anc a).elem b)
  ve : ∀ a < n, PySem.W.kitOne K (.ref (ga a)) (.type "ValueError") = some true
  cls : ∀ a < n, L2.ExcC K (ga a)
def excOf (h : AH) : W → Option Nat
  | .ref l => (match h.get l with
    | some (.exc c _) => some c
    | some (.exn c) => some c
    | _ => none)
  | _ => none
def memN (a : Nat) : List Nat → Bool
  | [] => false
  | b :: r => (match Nat.beq a b with
    | true => true
    | false => memN a r)
theorem memN_ok {a : Nat} : ∀ l : List Nat, memN a l = l.elem a
  | [] => rfl
  | b :: r => by
    unfold memN
    rw [List.elem_cons, ← memN_ok r]
    cases e : Nat.beq a b with
    | true => rw [show (a == b) = true by rw [Nat.eq_of_beq_eq_true e]; exact beq_self_eq_true _] <;> rfl
    | false => rw [show (a == b) = false from beq_eq_false_iff_ne.mpr fun z => by rw [z, Nat.beq_refl] at e; cases e] <;> rfl
def oIsX (n : Nat) (anc : Nat → List Nat) : OpN := fun xs h => match xs with
  | [x, .glo b] => (match excOf h x with
    | some a => (match Nat.blt a n && Nat.blt b n with
      | true => some (.bl (memN b (anc a)), h)
      | false => none)
    | none => none)
  | [x, .ty .verr] => (match excOf h x with
    | some a => (match Nat.blt a n with
      | true => some (.bl true, h)
      | false => none)
    | none => none)
  | [x, .ty t] => (match kind h x with
    | some k => some (.bl (k.isT t), h)
    | none => none)
  | _ => none
theorem inst_of {pins : List (Addr × Obj)} {σ : St} {H : Hp} {s : Shared} {m : Mp} {h : AH} (I : Inv X pins σ H s) (R : Rel G m h H) {w : W} {v : V} {c : Nat} (r : VR G m w v) (e : excOf h w = some c) : ∃ a, v = .ref a ∧ ∃ ox od, PySem.W.InstAt s.heap a ox (G.ga c) od := by
  unfold excOf at e
  cases w with
  | ref l =>
    obtain ⟨a, ha, rfl⟩ := r
    refine ⟨a, rfl, ?_⟩
    dsimp only at e
    cases e1 : h.get l with
    | none => rw [e1] at e; cases e
    | some c1 =>
      rw [e1] at e
      cases c1 with
      | exc c2 d =>
        cases e
        obtain ⟨_, o1, ad, e2, rfl⟩ := R.see ha e1
        obtain ⟨⟨oe, vs, g1, g2, g3⟩, _⟩ := (show L2.ObjOk X.prog X.w H s.heap a (ExcO (.ref (G.ga c)) (some ad) a) from I.hok a _ o1)
        obtain ⟨c3, o3, k1, k2, k3⟩ := R.cell d ad e2
        obtain ⟨ob, hob⟩ := L2.objOk_get (I.hok ad _ k2)
        obtain ⟨oc, odi, oda, osl⟩ := oe
        obtain ⟨z1, z2⟩ := g2
        dsimp only at z1 z2 g3
        subst z1 z2 g3
        exact ⟨_, some ob, ⟨g1, rfl, rfl, hob⟩⟩
      | exn c2 =>
        cases e
        obtain ⟨_, o1, rfl⟩ := R.see ha e1
        obtain ⟨⟨oe, vs, g1, g2, g3⟩, _⟩ := (show L2.ObjOk X.prog X.w H s.heap a (ExcO (.ref (G.ga c)) none a) from I.hok a _ o1)
        obtain ⟨oc, odi, oda, osl⟩ := oe
        obtain ⟨z1, z2⟩ := g2
        dsimp only at z1 z2 g3
        subst z1 z2 g3
        exact ⟨_, none, ⟨g1, rfl, rfl, trivial⟩⟩
      | _ => cases e
  | _ => cases e
theorem isx_run {pins : List (Addr × Obj)} {σ : St} {H : Hp} {s : Shared} {Q : VK} {a : Addr} {c : Nat} {n : Nat} {anc : Nat → List Nat} {u : Value} {b : Bool} (T : Anc X.K G.ga n anc) (hc : c < n) (I : Inv X pins σ H s) (J : ∃ ox od, PySem.W.InstAt s.heap a ox (G.ga c) od)
    (e : PySem.W.kitOne X.K (.ref (G.ga c)) u = some b) (q : Q (.bl b) H) : wpAny (model X.prog X.w) X.A (call (.builtin "isinstance") [.ref a, u]) (L2.EP X pins σ Q) X.xe s :=
  PySem.W.kia_one (PySem.TieX.kit_exc (T.cls c hc)) I.kIn J e (fun z => nomatch z) fun tk => ⟨.bl b, H, I.tok tk, rfl, q⟩
theorem cr_isX {n : Nat} {anc : Nat → List Nat} (T : Anc X.K G.ga n anc) (hK : X.K = G.K := by rfl) : CallR X (.builtin "isinstance") (rN G (oIsX n anc)) := fun pins s σ H xs us Q I rx hh => by
  obtain ⟨m, h, as, R, rs, q⟩ := hh
  cases rs with
  | nil => exact q.elim
  | @cons w v _ _ r t =>
    cases t with
    | nil => exact q.elim
    | @cons w2 v2 _ _ r2 t =>
      cases t with
      | cons _ _ => cases w2 with
        | ty t => cases t <;> exact q.elim
        | _ => exact q.elim
      | nil =>
        obtain ⟨u1, u2, rfl, ru1, ru2⟩ := L2.vals2 rx
        cases w2 with
        | glo b =>
          cases r2
          cases (show u2 = Value.ref (G.ga b) from ru2)
          unfold oIsX at q
          dsimp only at q
          cases e : excOf h w with
          | none =>
            rw [e] at q
            exact q.elim
          | some a =>
            rw [e] at q
            dsimp only at q
            cases e2 : Nat.blt a n && Nat.blt b n with
            | false =>
              rw [e2] at q
              exact q.elim
            | true =>
              rw [e2] at q
              obtain ⟨z1, z2⟩ := Bool.and_eq_true_iff.mp e2
              obtain ⟨ad, rfl, J⟩ := inst_of I R r e
              cases (show u1 = Value.ref ad from ru1)
              exact isx_run T (Nat.le_of_ble_eq_true z1) I J (T.own a (Nat.le_of_ble_eq_true z1) b (Nat.le_of_ble_eq_true z2)) (q m H _ (.refl m) R (by rw [memN_ok]; exact rfl))
        | ty t =>
          cases r2
          have plain : Sat G m (fun _ _ _ => False) (VR G) (ofO (match kind h w with
              | some k => some (W.bl (k.isT t), h)
              | none => none)) Q → wpAny (model X.prog X.w) X.A (call (.builtin "isinstance") [u1, u2]) (L2.EP X pins σ Q) X.xe s := fun q => by
            refine cr_isi hK pins s σ H [v, .ty t.nm] [u1, u2] Q I rx ⟨m, h, [w, .ty t], R, .cons r (.cons rfl .nil), ?_⟩
            exact q
          unfold oIsX at q
          cases t with
          | verr =>
            dsimp only at q
            cases e : excOf h w with
            | none =>
              rw [e] at q
              exact q.elim
            | some a =>
              rw [e] at q
              dsimp only at q
              cases e2 : Nat.blt a n with
              | false =>
                rw [e2] at q
                exact q.elim
              | true =>
                rw [e2] at q
                obtain ⟨ad, rfl, J⟩ := inst_of I R r e
                cases (show u1 = Value.ref ad from ru1)
                cases (show u2 = Value.type "ValueError" from ru2)
                exact isx_run T (Nat.le_of_ble_eq_true e2) I J (T.ve a (Nat.le_of_ble_eq_true e2)) (q m H _ (.refl m) R rfl)
          | _ => exact plain q
        | _ => exact q.elim
/-! ### their value -/
def oVal (n : Nat) : Op1 := fun x h => match x with
  | .ref l => (match h.get l with
    | some (.exc c d) => (match Nat.blt c n with
      | true => (match h.get d with
        | some (.xd v) => some (v, h)
        | _ => none)
      | false => none)
    | _ => none)
  | _ => none
theorem pm_val {e : Expr} {ge : EM} {n : Nat} {anc : Nat → List Nat} (T : Anc X.K G.ga n anc) (hno : ∀ c < n, PySem.W.findIn X.K (.ref (G.ga c)) "value" = some none) (he : PE X e (tE G Z ge)) (hb : attributeBase e "value" X.env (eval e X.env) = eval e X.env := by rfl) :
    PE X (.Attribute e "value" pos) (tE G Z (eOp1 (oVal n) ge)) := by
  refine ⟨fun pins s σ H Q I h => ?_⟩
  have h2 : tE G Z ge σ H fun x H1 => rU G (oVal n) x H1 Q := op1_read h
  refine L2.attr_of hb (L2.thn (he.run pins s σ H _ I h2) fun u s1 ⟨x, H1, I1, rx, m, h1, w, R, r, q⟩ => ?_)
  unfold oVal at q
  cases w with
  | ref l =>
    dsimp only at q
    cases e1 : h1.get l with
    | none => rw [e1] at q; exact q.elim
    | some c1 =>
      rw [e1] at q
      cases c1 with
      | exc c d =>
        dsimp only at q
        cases e2 : Nat.blt c n with
        | false => rw [e2] at q; exact q.elim
        | true =>
          rw [e2] at q
          dsimp only at q
          cases e3 : h1.get d with
          | none => rw [e3] at q; exact q.elim
          | some c2 =>
            rw [e3] at q
            cases c2 with
            | xd v =>
              have hc := Nat.le_of_ble_eq_true e2
              obtain ⟨a, ha, rfl⟩ := r
              obtain ⟨_, o1, ad, had, rfl⟩ := R.see ha e1
              obtain ⟨_, o2, v', rv, rfl⟩ := R.see had e3
              cases (show u = Value.ref a from rx)
              obtain ⟨⟨oe, vs, g1, g2, g3⟩, _⟩ := (show L2.ObjOk X.prog X.w H1 s1.heap a (ExcO (.ref (G.ga c)) (some ad) a) from I1.hok a _ o1)
              obtain ⟨mA, hns, hr⟩ := (show L2.ObjOk X.prog X.w H1 s1.heap ad (.xd [(("value" : Str), v')]) from I1.hok ad _ o2)
              obtain ⟨od, ho, hl⟩ := L2.lookIn_ns hns
              obtain ⟨u', hu, ru⟩ := L2.RelO.some_of (v := v') (o := mA "value") (by
                have z := hr "value"
                rw [show List.lookup ("value" : Str) [(("value" : Str), v')] = some v' by simp [List.lookup]] at z
                exact z)
              have J : PySem.W.InstAt s1.heap a oe (G.ga c) (some od) := ⟨g1, g2.1, by unfold PySem.W.notCls; rw [g3] <;> rfl, by rw [g2.2]; exact ho⟩
              have TC := T.cls c hc
              exact HandSPX.exc_get I1.kIn J TC.hg TC.hk TC.hs (PySem.W.findObj_own TC.hd (hno c hc) rfl (by rw [hl, hu])) (L2.handed_of ru) ⟨v', H1, I1.tok _, ru, q m H1 v' (.refl m) R rv⟩
            | _ => exact q.elim
      | _ => exact q.elim
  | _ => exact q.elim
end
end Pm
/-! PmMore: errors without an __init__, dicts' displays, repeated texts. -/
namespace Pm
open PySem PySem.Spec
open L2 (V Hp HO Cx Inv PE PT PA PS PSs PW TE TT TA TS St VK XK WX Ends RelV Vals upd upd_same upd_ne Takes R2 OpR CallR MtR tOp tVar Vis Gl Room Binds)
section
variable {X : Cx} {G : Gx} {Z : WX} {pos : Pos}
def eMkN (c : Nat) : EM := fun _ h => .ok (.ref h.n) (h.new (.exn c))
theorem pm_mkN {c : Nat} {x : Str} {p : Pos} (q : PySem.W.excIn X.K (G.ga c) PySem.HandSPX.veTail "ValueError.__new__" = true) (kC : PySem.W.keepIn X.K (.ref (G.ga c)) = true) (hg : Gl X x) (hm : X.mg x = some (.ref (G.ga c))) (hdb : (x == ("__debug__" : Str)) = false := by decide) : PE X (.Call (.Name x p) [] [] pos) (tE G Z (eMkN c)) := by
  refine ⟨fun pins s σ H Q I h => wpAny_Call_Name_kw (L2.ld_glob I hg hm ?_ hdb)⟩
  obtain ⟨m, h', sl, R, S, z⟩ := h
  refine PySem.W.callWith_K0 I.kIn kC ?_
  obtain ⟨bm, N, nm, qn, bs, hdct, sn, sub, ab, col, dd, k0, k1, k2, k3, k5, mN, hC, hN, hni, T⟩ := L2.exc_obj I.kIn q
  refine wpAny_call_exc_subT PySem.F.excBase_ValueError T hC hN hni (fun hp a hm => ?_) (Nat.zero_le _)
  have hn : H a = none := I.hok.gone hm.new
  obtain ⟨t, ht, _, _⟩ := hm.there
  exact ⟨.ref a, upd H a (ExcO (.ref (G.ga c)) none a), I.laidN hm.keeps hm.new hn (excO_ok ht ⟨rfl, rfl⟩ rfl), rfl, new_sat (c := .exn c) R hn rfl z⟩
/-! ### {}, {k: v} -/
def eD0 : EM := fun _ h => .ok (.ref h.n) (h.new (.dct []))
theorem pm_dict0 : PE X (.Dict [] [] pos) (tE G Z eD0) := pe_of L2.pe_dnewK fun σ H Q h => by
  obtain ⟨m, h', sl, R, S, z⟩ := h
  exact fun p np => new_sat (c := .dct []) R np ⟨[], .nil, rfl⟩ z
/-- {k: v}, k a constant -/
def eD1 (k : Sum Int (List Nat)) (g : EM) : EM := fun σ h => (g σ (h.new (.dct []))).bind fun v h1 => match h1.get h.n with
  | some (.dct []) => .ok (.ref h.n) (h1.put h.n (.dct [(k, v)]))
  | _ => .no
theorem pm_dict1 {ke e : Expr} {k : Sum Int (List Nat)} {g : EM} (hk : PE X ke (L2.tC (L2.kV (kof k)))) (he : PE X e (tE G Z g)) : PE X (.Dict [some ke] [e] pos) (tE G Z (eD1 k g)) :=
  pe_of (L2.pe_disp (L2.pps_cons hk he L2.pps_nil) rfl rfl (by simp) (by simp)) fun σ H Q h => by
    obtain ⟨m, h', sl, R, S, z⟩ := h
    intro p np
    have R1 : Rel G (m.snoc p) (h'.new (.dct [])) (upd H p (.dK [])) := R.new np ⟨[], .nil, rfl⟩
    have at1 : (m.snoc p).as[h'.n]? = some p := by
      show (m.as ++ [p])[h'.n]? = some p
      rw [← R.len]
      exact List.getElem?_concat_length
    refine ⟨m.snoc p, h'.new (.dct []), sl, R1, S.mono (m.le_snoc p), ?_⟩
    have z' : Sat G (m.snoc p) (fun c d H => Z c d σ H) (VR G) (eD1 k g sl h') Q := z.mono (m.le_snoc p)
    refine (Sat.bind (R := VR G) z').imp fun v H1 y => ?_
    obtain ⟨m1, w, h1, l1, R2, rv, y⟩ := y
    cases e1 : h1.get h'.n with
    | none => rw [e1] at y; exact y.elim
    | some c1 =>
      rw [e1] at y
      cases c1 with
      | dct ks =>
        cases ks with
        | cons _ _ => exact y.elim
        | nil =>
          obtain ⟨_, o1, kv, r1, rfl⟩ := R2.see (l1.at at1) e1
          cases r1
          refine ⟨o1, [(kof k, v)], rfl, by simp, ?_⟩
          exact y m1 _ (.ref p) (.refl m1) (R2.put (c := .dct []) (c' := .dct [(k, w)]) (l1.at at1) e1 rfl ⟨[(kof k, v)], .cons ⟨rfl, rv⟩ .nil, rfl⟩) ⟨p, l1.at at1, rfl⟩
      | _ => exact y.elim
/-! ### a text, n times -/
def creps (x : List Nat) : Nat → List Nat
  | 0 => []
  | n + 1 => x ++ creps x n
def oMulS : Op2 := fun x y h => match x, y with
  | .txt (.str a), .int (.ofNat n) => (match Nat.ble n 1000 && Nat.ble a.length 1000 with
    | true => some (.txt (.str (creps a n)), h)
    | false => none)
  | _, _ => oMul x y h
def rMulS : R2 := fun x y H Q => ∃ (a : List Nat) (n : Nat), x = .str ⟨a.toArray⟩ ∧ y = .int n ∧ n ≤ 1000 ∧ a.length ≤ 1000 ∧ Q (.str ⟨(creps a n).toArray⟩) H
theorem fold_creps (a : List Nat) : ∀ (n : Nat) (b : Array Nat), (List.replicate n a.toArray).foldl (· ++ ·) b = b ++ (creps a n).toArray
  | 0, b => by simp [creps]
  | n + 1, b => by
    rw [List.replicate_succ, List.foldl_cons, fold_creps a n]
    simp [creps]
theorem op_mulS : OpR X (binaryOp .Mult) rMulS := by
  intro pins s σ H x y v u Q I rx ry h
  obtain ⟨a, n, rfl, rfl, hn, ha, q⟩ := h
  obtain ⟨t, rfl⟩ := rx
  obtain ⟨t', rfl⟩ := ry
  have e0 : creps a n = [] → L2.EP X pins σ Q (.str Str.empty s.toks) { s with toks := s.toks + 1 } := fun e => ⟨.str ⟨(creps a n).toArray⟩, H, I.tok _, ⟨s.toks, by rw [e]; rfl⟩, q⟩
  have len : ∀ n : Nat, (creps a n).length = a.length * n := fun n => by
    induction n with
    | zero => rfl
    | succ n ih =>
      show (a ++ creps a n).length = _
      rw [List.length_append, ih, Nat.mul_succ]
      omega
  have small : a.length * n ≤ 1000 * 1000 := Nat.mul_le_mul ha hn
  have hlen : (⟨a.toArray⟩ : Str).length = a.length := by show a.toArray.size = _; simp
  refine PySem.P.mul_str (by
    rw [decide_eq_false (show ¬ ((n : Int) < -(2 ^ 63 : Int)) by omega), decide_eq_false (show ¬ ((n : Int) ≥ 2 ^ 63) by omega)]
    rfl) (fun h1 _ h2 => ?_) (fun _ _ => ?_) ?_
  · have h3 : (1000 : Int) ≤ (2 ^ 63 - 1) / (n : Int) := Int.le_ediv_of_mul_le (by omega) (by omega)
    rw [hlen] at h2
    omega
  · show decide (_ > sizeLine) = false
    rw [hlen, Int.toNat_natCast]
    exact decide_eq_false (by rw [sizeLine_eq]; omega)
  · split
    · have e : n = 0 := by omega
      subst e
      exact ⟨Nat.zero_le _, e0 rfl⟩
    · split
      · rename_i h1
        rw [Bool.or_eq_true, beq_iff_eq, beq_iff_eq, hlen] at h1
        have e : creps a n = a := by
          rcases h1 with h1 | h1
          · have h1' : n = 1 := by omega
            subst h1'
            show a ++ [] = a
            exact List.append_nil a
          · have h1' : a = [] := List.length_eq_zero_iff.mp h1
            have h2 := len n
            rw [h1, Nat.zero_mul] at h2
            rw [List.length_eq_zero_iff.mp h2, h1']
        exact ⟨.str ⟨(creps a n).toArray⟩, H, I, ⟨t, by rw [e]⟩, q⟩
      · have e : (⟨(List.replicate (n : Int).toNat (⟨a.toArray⟩ : Str).cps).foldl (· ++ ·) #[]⟩ : Str) = ⟨(creps a n).toArray⟩ := by
          rw [Int.toNat_natCast]
          show (⟨(List.replicate n a.toArray).foldl (· ++ ·) #[]⟩ : Str) = _
          rw [fold_creps]
          simp
        rw [e]
        refine ⟨?_, ⟨.str ⟨(creps a n).toArray⟩, H, I.tok _, ⟨_, rfl⟩, q⟩⟩
        show (creps a n).toArray.size ≤ sizeLine
        rw [List.size_toArray, len, sizeLine_eq]
        omega
theorem or_mulS : OpR X (binaryOp .Mult) (rO G oMulS) := opr_of (or_mul.or op_mulS) fun x y H Q h => by
  obtain ⟨m, h, a, b, R, ra, rb, q⟩ := h
  have other : Sat G m (fun _ _ _ => False) (VR G) (ofO (oMul a b h)) Q → rO G oMul x y H Q := fun z => ⟨m, h, a, b, R, ra, rb, z⟩
  unfold oMulS at q
  cases a with
  | txt d =>
    cases d with
    | str a =>
      cases b with
      | int i =>
        cases i with
        | ofNat n =>
          dsimp only at q
          cases e : Nat.ble n 1000 && Nat.ble a.length 1000 with
          | false =>
            rw [e] at q
            exact q.elim
          | true =>
            rw [e] at q
            obtain ⟨z1, z2⟩ := Bool.and_eq_true_iff.mp e
            cases ra
            cases rb
            exact .inr ⟨a, n, rfl, rfl, Nat.le_of_ble_eq_true z1, Nat.le_of_ble_eq_true z2, q m H _ (.refl m) R rfl⟩
        | negSucc n => exact .inl (other q)
      | _ => exact .inl (other q)
    | _ => exact .inl (other q)
  | _ => exact .inl (other q)
end
end Pm
/-! PmLaw: from the meaning of a law's def to the law's row. -/
namespace Pm
open PySem PySem.Spec PySem.W
open PyProof.Rows (AllBare)
open L2 (V Hp HO Cx Inv XK WX RelV Vals upd upd_same upd_ne Room hidT hidT_get of_hidT hidT_size)
section
variable {P : Program} {w : World} {K : PySem.W.Frag} {mg mb : Str → Option Value} {k : Nat} {fa a : Addr} {fd : FuncData} {x : Str} {s₁ : Shared} {vs : List Value} {ns : List Int} {G : Gx} {fn : Fn}
theorem law_core (hG : G.m0 = ⟨[], []⟩ ∧ G.tt = [] ∧ G.sa = a ∧ G.K = K ∧ G.ns = ns) (KX : K.In s₁.heap) (g1 : s₁.heap.Ns mainGlobals mg) (g2 : s₁.heap.Ns builtinsNs mb) (g3 : ∀ x : Str, x ≠ "__name__" → mb x = bootBuiltins x) (g4 : s₁.heap.NoLimit) (g5 : s₁.gens = #[])
    (ha : s₁.heap.get? a = some { cls := .type "list", data := .seq vs.toArray }) (hr : Room k callerA) (F : FnG G P w K mg k fa fd [x] fn) (hbind : ∀ (s : Shared) (u : Value), BindsTo s fd ⟨[u], []⟩ [(x, u)])
    (hfn : ∃ h', fn [.scr] (AH.nil ns) = .ok (.bl true) h') {H : Hp} (hO : L2.Only H) (hS : ScrR K H a (ns.map V.int)) (hok : L2.HOk P w H s₁.heap) (hA : ∀ b, H b ≠ none → b = a) (hK : H a ≠ none → K.lookup a = none) :
    codeAny (model P w) callerA (.call (.ref fa) ⟨[.ref a], []⟩) (fun r s' => r = .ok (.ret (.bool true)) ∧ OldK s₁.heap s'.heap ∧ s'.os = s₁.os ∧ AllBare s'.gens) s₁ := by
  have here : ∀ {b : Addr} {u : HO}, H b = some u → b = a := fun {b u} q => hA b (by rw [q]; exact fun z => nomatch z)
  have noD : ∀ {b : Addr} {o : Obj} {es : Array DictEntry} {ep : Nat}, s₁.heap.get? b = some o → o.data = .dict es ep → H b = none := fun {b o es ep} e d => by
    cases q : H b with
    | none => rfl
    | some u =>
      have e' := here q
      subst e'
      rw [ha] at e; cases e
      exact nomatch (show Data.seq vs.toArray _ = Data.dict es ep from d)
  have nsT : ∀ {b : Addr} {m : Str → Option Value}, s₁.heap.Ns b m → (hidT s₁.heap H).Ns b m := fun ⟨o, es, ep, e, d, r⟩ => ⟨o, es, ep, hidT_get e (noD e d), d, r⟩
  have kT : K.In (hidT s₁.heap H) := fun b o e => hidT_get (KX b o e) (by
    cases q : H b with
    | none => rfl
    | some u =>
      have e' := here q
      subst e'
      rw [hK (by rw [q]; exact fun z => nomatch z)] at e; cases e)
  have M : L2.Mod K mg (hidT s₁.heap H) := ⟨kT, nsT g1, ⟨mb, nsT g2, g3⟩, let ⟨mc, h1, h2⟩ := g4; ⟨mc, nsT h1, h2⟩⟩
  have e0 : L2.Env0 P w K mg (hidT s₁.heap H) callerA [] s₁ H := ⟨rfl, M, fun b o e => of_hidT e, Nat.le_of_eq (hidT_size _ _), trivial, (fun b hb => nomatch (show b ∈ ([] : List Addr) from hb)), hok, AllBare.of_eq g5⟩
  obtain ⟨h', hfn⟩ := hfn
  obtain ⟨z1, z2, z3, z4, z5⟩ := hG
  have R : Rel G ⟨[], []⟩ (AH.nil ns) H := ⟨by rw [z1]; exact Mp.Le.refl _, rfl, rfl, List.nodup_nil, fun l b e => by simp at e, by rw [z2]; exact (fun p hp => nomatch hp), (by rw [z3, z4]; exact hS), z5.symm⟩
  refine codeAny_mono (F.run (hidT s₁.heap H) callerA [] s₁ H ⟨[.ref a], []⟩ [.ref a] [.ref a] (fun v _ => v = .bl true) (fun _ _ _ => False) ⟨[], []⟩ (AH.nil ns) [.scr] rfl hr e0 (hbind s₁ (.ref a)) (.cons rfl .nil) R (.cons (show V.ref a = V.ref G.sa by rw [z3]) .nil) ?_) fun r s' h => ?_
  · rw [hfn]
    exact fun m' H' b _ _ e => e
  · cases r with
    | error e =>
      obtain ⟨_, _, _, _, _, _, _, _, _, _, _, _, z⟩ := (show L2.CX P w [] H s₁ (fun _ _ _ => False) e s' from h)
      exact z.elim
    | ok fl =>
      cases fl with
      | next => exact False.elim h
      | brk => exact False.elim h
      | cont => exact False.elim h
      | ret u =>
        obtain ⟨v, H', os, bare, un, hok', r', q⟩ := h
        obtain rfl : v = .bl true := q
        obtain rfl : u = Value.bool true := r'
        refine ⟨rfl, OldK.of_keep fun b o e => ?_, os, bare⟩
        cases q : H b with
        | none => exact un.keep b o e q (fun z => nomatch (show b ∈ ([] : List Addr) from z)) (by simp)
        | some u =>
          rcases hO b with z | ⟨ob, xs, z⟩
          · rw [q] at z; cases z
          · obtain ⟨e1, _⟩ := hok b _ z
            obtain ⟨e2, _⟩ := hok' b _ (un.frzs b ob _ z)
            rw [e] at e1; cases e1
            exact e2
theorem law_run (hG : G.m0 = ⟨[], []⟩ ∧ G.tt = [] ∧ G.sa = a ∧ G.K = K ∧ G.ns = ns) (KX : K.In s₁.heap) (g1 : s₁.heap.Ns mainGlobals mg) (g2 : s₁.heap.Ns builtinsNs mb) (g3 : ∀ x : Str, x ≠ "__name__" → mb x = bootBuiltins x) (g4 : s₁.heap.NoLimit) (g5 : s₁.gens = #[])
    (ha : s₁.heap.get? a = some { cls := .type "list", data := .seq vs.toArray }) (hi : PyProof.Rows.IntsAre vs ns) (hl : ns.length ≤ sizeLine) (hr : Room k callerA) (F : FnG G P w K mg k fa fd [x] fn) (hbind : ∀ (s : Shared) (u : Value), BindsTo s fd ⟨[u], []⟩ [(x, u)])
    (hfn : ∃ h', fn [.scr] (AH.nil ns) = .ok (.bl true) h') :
    codeAny (model P w) callerA (.call (.ref fa) ⟨[.ref a], []⟩) (fun r s' => r = .ok (.ret (.bool true)) ∧ OldK s₁.heap s'.heap ∧ s'.os = s₁.os ∧ AllBare s'.gens) s₁ := by
  have rv := L2.vals_ints hi
  have lv := hi.length
  cases hk : K.lookup a with
  | some o =>
    have e := KX a o hk
    rw [ha] at e
    cases e
    refine law_core hG KX g1 g2 g3 g4 g5 ha hr F hbind hfn (H := fun _ => none) (fun _ => .inl rfl) (.inr (.inr ⟨_, vs.toArray, _, hk, rfl, rfl, rfl, by rw [List.size_toArray, lv]; exact hl, by simpa using rv⟩)) (fun b u z => nomatch (show (none : Option HO) = some u from z)) (fun b z => absurd rfl z) fun z => absurd rfl z
  | none =>
    refine law_core hG KX g1 g2 g3 g4 g5 ha hr F hbind hfn (H := fun b => if b = a then some (.frz { cls := .type "list", data := .seq vs.toArray } (.lst (ns.map V.int))) else none) (fun b => ?_) (.inl ⟨_, if_pos rfl⟩) (fun b u z => ?_) (fun b z => ?_) fun _ => hk
    · by_cases hb : b = a
      · exact .inr ⟨_, _, if_pos hb⟩
      · exact .inl (if_neg hb)
    · by_cases hb : b = a
      · have z' := (if_pos hb).symm.trans z
        cases z'
        subst hb
        exact ⟨ha, by rw [List.length_map]; exact hl, vs, _, rv, ha⟩
      · exact nomatch (if_neg hb).symm.trans z
    · by_cases hb : b = a
      · exact hb
      · exact absurd (if_neg hb) z
end
theorem law_walk {l : PySem.W.OpenLaw} {n k : Nat} {q : Program} {loose : List Str} {XP : (Str → Option Value) → Heap → Prop} {YP : World → Heap → Prop} {d : DefRec} {K : Params → PySem.W.Frag} {x : Str}
    (hn : l.most = some n) (hn2 : n ≤ sizeLine) (hdf : d.params.defaults = []) (hr : Room k callerA) (hY : ∀ (w : World) (h : Heap), YP w h → (K w.params).In h)
    (F : ∀ (w : World) (mg : Str → Option Value) (fa : Addr) (h : Heap), (K w.params).In h → h.Ns mainGlobals mg → mg d.name = some (.ref fa) →
      ∃ fd : FuncData, (∀ (s : Shared) (u : Value), BindsTo s fd ⟨[u], []⟩ [(x, u)]) ∧ ∀ (a : Addr) (ns : List Int), ns.length ≤ n →
        ∃ (G : Gx) (fn : Fn), (G.m0 = ⟨[], []⟩ ∧ G.tt = [] ∧ G.sa = a ∧ G.K = K w.params ∧ G.ns = ns) ∧ FnG G l.prog w (K w.params) mg k fa fd [x] fn ∧ ∃ h', fn [.scr] (AH.nil ns) = .ok (.bl true) h') :
    PySem.W.WalkO q loose XP YP l.row.toRowW d [] (fun f vs => PySem.call f vs) := by
  refine Att.attach_call hn hdf fun w s₀ s₁ mg mb fa o pm cd doc a vs ns G Y ho hd hcd hmg hobj hints hlen hg => ?_
  obtain ⟨fd, hb, hF⟩ := F w mg fa _ (hY w _ Y) G.T.g hmg
  obtain ⟨Gm, fn, h1, h2, h3⟩ := hF a ns hlen
  exact law_run h1 (hY w _ Y) G.T.g G.T.b G.T.builtins G.T.nolimit hg hobj hints (Nat.le_trans hlen hn2) hr h2 hb h3
end Pm
/-! PmHead: what the head gives of defs and of error classes. -/
namespace Pm
open PySem PySem.Spec PySem.W PySem.TieX
open L2 (V Hp HO Cx Inv XK WX RelV Vals Room Binds)
/-- a def of the module -/
structure Df (K : PySem.W.Frag) (mg : Str → Option Value) (x : Str) (st : Stmt) (f : Addr) (fd : FuncData) : Prop where
  F : L2.Fun K x x st f fd
  m : mg x = some (.ref f)
theorem df_mk {K : PySem.W.Frag} {h : Heap} {mg : Str → Option Value} (st : Stmt) {x : Str} {f : Addr} {oc : Value} {od an : Option Addr} {osl : Array (Option Value)} {kV doc pm cdv ct : Value} (X : K.In h) (G : h.Ns mainGlobals mg)
    (a : nsIn K mainGlobals x = some (some (.ref f))) (l : K.lookup f = some ⟨oc, od, .func (fnOf x x (L2.defArgs st) (L2.defBody st) (L2.defScope st) .none kV doc pm an cdv ct), osl⟩) (c : codeIn K cdv x = true) (k : keepIn K (.ref f) = true) :
    ∃ (f : Addr) (fd : FuncData), Df K mg x st f fd := ⟨f, _, L2.fun_mk (st := st) l c k, mg_of X G a⟩
/-- what every error class of the program says -/
def clsB (K : PySem.W.Frag) (C : Addr) : Bool :=
  decide (findIn K (.ref C) "__getattribute__" = some (some (.builtin "BaseException.__getattribute__"))) && (decide (findIn K (.ref C) "__getattr__" = some none) && (decide (subIn K (.ref C) (.type "BaseException") = some true) && (hasDictIn K C &&
  (decide (findIn K (.ref C) "__class__" = some (some (.builtin "object.__class__"))) && (decide (specialIn K (.builtin "object.__class__") "__get__" = some (some (.builtin "getset_descriptor.__get__"))) && (decide (takesIn K (.builtin "object.__class__") = some true) && (decide (mroIn K C (.type "object") = some true) &&
  (decide (findIn K (.ref C) "value" = some none) && (decide (typeIn K (.ref C) = some (.type "type")) && (keepIn K (.ref C) && (decide (findIn K (.ref C) "__setattr__" = some (some (.builtin "object.__setattr__"))) && decide (kitOne K (.ref C) (.type "ValueError") = some true))))))))))))
structure ClsF (K : PySem.W.Frag) (C : Addr) : Prop where
  e : L2.ExcC K C
  no : findIn K (.ref C) "value" = some none
  ty : typeIn K (.ref C) = some (.type "type")
  kp : keepIn K (.ref C) = true
  sa : findIn K (.ref C) "__setattr__" = some (some (.builtin "object.__setattr__"))
  ve : kitOne K (.ref C) (.type "ValueError") = some true
theorem clsB_ok {K : PySem.W.Frag} {C : Addr} (h : clsB K C = true) : ClsF K C := by
  obtain ⟨h1, h⟩ := Bool.and_eq_true_iff.mp h
  obtain ⟨h2, h⟩ := Bool.and_eq_true_iff.mp h
  obtain ⟨h3, h⟩ := Bool.and_eq_true_iff.mp h
  obtain ⟨h4, h⟩ := Bool.and_eq_true_iff.mp h
  obtain ⟨h5, h⟩ := Bool.and_eq_true_iff.mp h
  obtain ⟨h6, h⟩ := Bool.and_eq_true_iff.mp h
  obtain ⟨h7, h⟩ := Bool.and_eq_true_iff.mp h
  obtain ⟨h8, h⟩ := Bool.and_eq_true_iff.mp h
  obtain ⟨h9, h⟩ := Bool.and_eq_true_iff.mp h
  obtain ⟨h10, h⟩ := Bool.and_eq_true_iff.mp h
  obtain ⟨h11, h⟩ := Bool.and_eq_true_iff.mp h
  obtain ⟨h12, h13⟩ := Bool.and_eq_true_iff.mp h
  exact ⟨⟨of_decide_eq_true h1, of_decide_eq_true h2, of_decide_eq_true h3, h4, of_decide_eq_true h5, of_decide_eq_true h6, of_decide_eq_true h7, of_decide_eq_true h8⟩, of_decide_eq_true h9, of_decide_eq_true h10, h11, of_decide_eq_true h12, of_decide_eq_true h13⟩
/-- the classes' addresses -/
def gaOf (cs : List Addr) (g : Nat) : Addr := cs.getD g 0
def ancB (K : PySem.W.Frag) (cs : List Addr) (n : Nat) (anc : Nat → List Nat) : Bool := (List.range n).all fun a => clsB K (gaOf cs a) && (List.range n).all fun b => decide (kitOne K (.ref (gaOf cs a)) (.ref (gaOf cs b)) = some ((anc a).elem b))
theorem ancB_ok {K : PySem.W.Frag} {cs : List Addr} {n : Nat} {anc : Nat → List Nat} (h : ancB K cs n anc = true) : Anc K (gaOf cs) n anc ∧ ∀ c < n, ClsF K (gaOf cs c) := by
  have h1 : ∀ a < n, ClsF K (gaOf cs a) ∧ ∀ b < n, kitOne K (.ref (gaOf cs a)) (.ref (gaOf cs b)) = some ((anc a).elem b) := fun a ha => by
    have z := List.all_eq_true.mp h a (List.mem_range.mpr ha)
    obtain ⟨z1, z2⟩ := Bool.and_eq_true_iff.mp z
    exact ⟨clsB_ok z1, fun b hb => of_decide_eq_true (List.all_eq_true.mp z2 b (List.mem_range.mpr hb))⟩
  exact ⟨⟨fun a ha b hb => (h1 a ha).2 b hb, fun a ha => (h1 a ha).1.ve, fun a ha => (h1 a ha).1.e⟩, fun c hc => (h1 c hc).1⟩
def posF (l : List Pos) (i : Nat) : Pos := l.getD i ⟨0, 0, 0, 0⟩
/-- an error class with an __init__ of the usual text -/
theorem tie_mk {P : Program} {K : PySem.W.Frag} {C fI : Addr} {qual : Str} {nm q : Str} {N : Addr} {bs bm : List Value} {sn : List Str} {sub : List Value} {ab : Bool} {col : Option Bool} {dd : Option Addr} {k0 k1 k2 k3 k5 : Option Value}
    {oc : Value} {od : Option Addr} {kV doc pm : Value} {an : Option Addr} {ct : Value} {osl : Array (Option Value)} {cc cda T : Addr} {p1 p2 p3 : Pos} {ccl : Value} {cdd : Option Addr} {vs : Array Value} {ccs : Array (Option Value)} {file : Str} {tf : Tok} {cl : Value} {cld : Option Addr} {csl : Array (Option Value)} {tc : Value} {td : Option Addr} {n : Nat} {tsl : Array (Option Value)}
    (ps : List Pos) (B : ClsF K C) (hC : K.lookup C = some (excClassObj nm q C N bs bm true sn sub ab col dd k0 k1 k2 k3 k5 "ValueError.__new__")) (iC : findIn K (.ref C) "__init__" = some (some (.ref fI))) (tI : typeIn K (.ref fI) = some (.type "function"))
    (lf : K.lookup fI = some ⟨oc, od, .func (ksFn "__init__" qual (iA p1 p2 p3) (iB (posF ps)) iS (.ref T) kV doc pm an (.ref cda) ct cc), osl⟩) (cd : codeIn K (.ref cda) qual = true) (lc : K.lookup cda = some ⟨ccl, cdd, .fields vs, ccs⟩) (lx : K.lookup cc = some ⟨cl, cld, .cell (some (.ref C)), csl⟩) (lT : K.lookup T = some ⟨tc, td, .seq #[.none] n, tsl⟩)
    (hv : vs[2]? = some (.str file tf)) (hf : ((P.main.file : Str) == file) = true) (hbm : PySem.HandSPX.refsVE bm = true) (hal : alongIn K "__init__" bm = some (some (.builtin "ValueError.__init__"))) (op : nsIn K cStatics "thirdparty.any" = some none) (sup : nsIn K mainGlobals "super" = some none)
    (tops : (P.main.scope.names.lookup ("super" : Str)).isSome = false) (ev : IEv (posF ps)) : ∃ fI qual, TieTxt P K C fI qual :=
  ⟨fI, qual, ⟨⟨nm, q, N, bs, bm, sn, sub, ab, col, dd, k0, k1, k2, k3, k5, hC, hbm, hal⟩, B.sa, B.no, iC, tI, B.kp, op, sup, tops, ⟨oc, od, kV, doc, pm, an, ct, osl, cc, cda, T, p1, p2, p3, posF ps, lf, cd, ⟨ccl, cdd, vs, ccs, file, tf, lc, hv, hf⟩, ⟨cl, cld, csl, lx⟩, ⟨tc, td, n, tsl, lT⟩, ev⟩⟩⟩
/-! ### the same heap, other words -/
theorem Rel.swap {G : Gx} {m : Mp} {h h' : AH} {H : Hp} (R : Rel G m h H) (en : h'.n = h.n) (ek : h'.k = h.k) (es : h'.s = h.s) (f : ∀ l c, h.get l = some c → ∃ c', h'.get l = some c' ∧ ∀ a o, CR G m a c o → CR G m a c' o) : Rel G m h' H where
  pre := R.pre
  len := R.len.trans en.symm
  act := R.act.trans ek.symm
  nd := R.nd
  cell := fun l a e => by
    obtain ⟨c, o, e1, e2, e3⟩ := R.cell l a e
    obtain ⟨c', e4, e5⟩ := f l c e1
    exact ⟨c', o, e4, e2, e5 a o e3⟩
  tab := R.tab
  sn := es.trans R.sn
  scr := by
    rw [es]
    exact R.scr
theorem fn_okN {G : Gx} {P : Program} {w : World} {K : PySem.W.Frag} {mg : Str → Option Value} {x qual : Str} {st : Stmt} {f : Addr} {fd : FuncData} {N ps : List Str} {k : Nat} {b : SM} {fn : Fn} (n kk : Nat) (F : L2.Fun K x qual st f fd) (S : L2.FnScope N ps (L2.defScope st))
    (hb : ∀ (base : Heap) (cdv : Value) (A : Around) (outer : List Env) (s : Shared) (H : Hp) (E : XK), A.guards = some [] → Room k (A.deeper (PyProof.Rows.envOfC qual (L2.defScope st) s.heap.objs.size f cdv)) →
      L2.PSs (L2.cxOf (L2.CX P w) P w K mg base N qual (L2.defScope st) f cdv A outer s H E) (L2.defBody st) (tS G (fun c d _ H => E c d H) b)) (hf : fn = callM n kk b) (hn : N.length = n := by rfl) (hk : ps.length = kk := by rfl) : FnG G P w K mg (k + 1) f fd ps fn := by
  subst hn hk hf
  exact fn_ok F S hb
/-! ### the built-ins' names -/
theorem bt_int : bootBuiltins "int" = some (.type Ty.int.nm) := by decide +kernel
theorem bt_bool : bootBuiltins "bool" = some (.type Ty.bool.nm) := by decide +kernel
theorem bt_str : bootBuiltins "str" = some (.type Ty.str.nm) := by decide +kernel
theorem bt_list : bootBuiltins "list" = some (.type Ty.list.nm) := by decide +kernel
theorem bt_tuple : bootBuiltins "tuple" = some (.type Ty.tuple.nm) := by decide +kernel
theorem bt_dict : bootBuiltins "dict" = some (.type Ty.dict.nm) := by decide +kernel
theorem bt_verr : bootBuiltins "ValueError" = some (.type Ty.verr.nm) := by decide +kernel
theorem bt_len : bootBuiltins "len" = some (.builtin "len") := by decide +kernel
theorem bt_sum : bootBuiltins "sum" = some (.builtin "sum") := by decide +kernel
theorem bt_max : bootBuiltins "max" = some (.builtin "max") := by decide +kernel
theorem bt_min : bootBuiltins "min" = some (.builtin "min") := by decide +kernel
theorem bt_isi : bootBuiltins "isinstance" = some (.builtin "isinstance") := by decide +kernel
theorem bt_repr : bootBuiltins "repr" = some (.builtin "repr") := by decide +kernel
theorem bt_sorted : bootBuiltins "sorted" = some (.builtin "sorted") := by decide +kernel
/-! ### error classes, their text known to be there -/
section
open L2 (Cx PE PS Gl Takes)
variable {X : Cx} {G : Gx} {Z : WX} {pos : Pos} {k c : Nat} {x : Str} {p : Pos}
theorem mkE {e : Expr} {ge : EM} (T : ∃ fI qual, TieTxt X.prog X.K (G.ga c) fI qual) (hsup : X.mg "super" = none) (hr : Room k X.A) (hg : Gl X x) (hm : X.mg x = some (.ref (G.ga c))) (ha : PE X e (tE G Z ge)) (hdb : (x == ("__debug__" : Str)) = false := by decide)
    (he : starEach [e] X.env = (false, eval e X.env) :: starEach [] X.env := by rfl) : PE X (.Call (.Name x p) [e] [] pos) (tE G Z (eOp1 (oMk c) ge)) := let ⟨_, _, T⟩ := T; pm_mk T hsup hr hg hm ha hdb he
theorem mkE0 (T : ∃ fI qual, TieTxt X.prog X.K (G.ga c) fI qual) (hsup : X.mg "super" = none) (hr : Room k X.A) (hg : Gl X x) (hm : X.mg x = some (.ref (G.ga c))) (hdb : (x == ("__debug__" : Str)) = false := by decide) : PE X (.Call (.Name x p) [] [] pos) (tE G Z (eOp1 (oMk c) (eC .non))) :=
  let ⟨_, _, T⟩ := T; pm_mk0 T hsup hr hg hm hdb
theorem mkEK {e : Expr} {ge : EM} {kp : Pos} (T : ∃ fI qual, TieTxt X.prog X.K (G.ga c) fI qual) (hsup : X.mg "super" = none) (hr : Room k X.A) (hg : Gl X x) (hm : X.mg x = some (.ref (G.ga c))) (ha : PE X e (tE G Z ge)) (hdb : (x == ("__debug__" : Str)) = false := by decide)
    (hall : (backToKw pos (keywordEach [⟨some "value", e, kp⟩] X.env)).all (·.1.isSome) = true := by rfl) (hks : (backToKw pos (keywordEach [⟨some "value", e, kp⟩] X.env)).filterMap (·.1) = [("value" : Str)] := by rfl)
    (hpl : ((backTo pos (starEach [] X.env)).any (·.1) || (backToKw pos (keywordEach [⟨some "value", e, kp⟩] X.env)).any (·.1.isNone)) = false := by rfl) : PE X (.Call (.Name x p) [] [⟨some "value", e, kp⟩] pos) (tE G Z (eOp1 (oMk c) ge)) :=
  let ⟨_, _, T⟩ := T; pm_mkK T hsup hr hg hm ha hdb hall hks hpl
end
end Pm
/-! PmTape: numbers drawn from the script, as letters. -/
namespace Pm
open PySem
/-- a fresh generator; b: the script is empty (its slice is made then) -/
def genT (b : Bool) : Fn := fun ws h => match ws with
  | [.scr, .int (.ofNat 0)] => (match b with
    | true => .ok (.ref (h.n + 1)) ((h.new (.lst [])).new (.lst [.raw 0, .raw 1, .raw 2]))
    | false => .ok (.ref h.n) (h.new (.lst [.raw 0, .raw 1, .raw 2])))
  | _ => .no
/-- the j-th draw gives the j-th word of the tape, if the bound is the j-th one -/
def rndT (bs : List Int) (ts : List W) : Fn := fun ws h => match ws with
  | [.ref l, .int B] => (match h.get l with
    | some (.lst [.raw i, .raw i1, .raw i2]) => (match nth ts (i / 3) with
      | some t => (match ieq (bs.getD (i / 3) 0) B && (Nat.beq (i % 3) 0 && (Nat.beq i1 (i + 1) && Nat.beq i2 (i + 2))) with
        | true => .ok t (h.put l (.lst [.raw (i + 3), .raw (i + 4), .raw (i + 5)]))
        | false => .no)
      | none => .no)
    | _ => .no)
  | _ => .no
def chk (r : Res W) : Bool := match r with
  | .ok (.bl true) _ => true
  | _ => false
theorem chk_ok {r : Res W} (h : chk r = true) : ∃ h', r = .ok (.bl true) h' := by
  unfold chk at h
  split at h
  · exact ⟨_, rfl⟩
  · cases h
/-! ### steps of a meaning -/
section
variable {σ σ1 : Sl} {h h1 h2 h3 : AH} {x y z : W} {a b : EM} {f : Op2} {g : Op1} {k : OpN} {A B : SM} {i : Nat} {r : SR} {t : Bool} {c : CM}
theorem v_var (e : sget σ i = some x) : eVar i σ h = .ok x h := by unfold eVar; rw [e]
theorem v_c : eC x σ h = .ok x h := rfl
theorem v_op2 (e1 : a σ h = .ok x h1) (e2 : b σ h1 = .ok y h2) (e3 : f x y h2 = some (z, h3)) : eOp2 f a b σ h = .ok z h3 := by unfold eOp2; rw [e1]; show Res.bind (b σ h1) _ = _; rw [e2]; show ofO _ = _; rw [e3]; rfl
theorem v_op1 (e1 : a σ h = .ok x h1) (e3 : g x h1 = some (z, h3)) : eOp1 g a σ h = .ok z h3 := by unfold eOp1; rw [e1]; show ofO _ = _; rw [e3]; rfl
theorem v_nil : evs [] σ h = .ok [] h := rfl
theorem v_cons {es : List EM} {xs : List W} (e1 : a σ h = .ok x h1) (e2 : evs es σ h1 = .ok xs h2) : evs (a :: es) σ h = .ok (x :: xs) h2 := by unfold evs; rw [e1]; show Res.bind (evs es σ h1) _ = _; rw [e2]; rfl
theorem v_opN {es : List EM} {xs : List W} (e1 : evs es σ h = .ok xs h1) (e3 : k xs h1 = some (z, h3)) : eOpN k es σ h = .ok z h3 := by unfold eOpN; rw [e1]; show ofO _ = _; rw [e3]; rfl
theorem v_call {fn : Fn} {es : List EM} {xs : List W} (e1 : evs es σ h = .ok xs h1) (e3 : fn xs h1 = .ok z h3) : eCall fn es σ h = .ok z h3 := by unfold eCall; rw [e1]; exact e3
theorem v_val (e : a σ h = .ok (.bl t) h1) : cVal a σ h = .ok t h1 := by unfold cVal; rw [e]; rfl
theorem v_set (e : a σ h = .ok x h1) (e2 : sput σ i (some x) = σ1) : sSet i a σ h = .nx σ1 h1 := by unfold sSet; rw [e, ← e2]; rfl
theorem v_ret (e : a σ h = .ok x h1) : sRet a σ h = .rt x h1 := by unfold sRet; rw [e]; rfl
theorem v_seq (e1 : A σ h = .nx σ1 h1) (e2 : B σ1 h1 = r) : sSeq A B σ h = r := by unfold sSeq; rw [e1]; exact e2
theorem v_seqR (e1 : A σ h = .rt x h1) : sSeq A B σ h = .rt x h1 := by unfold sSeq; rw [e1]
theorem v_if1 (e1 : c σ h = .ok true h1) (e2 : A σ h1 = r) : sIf c A B σ h = r := by unfold sIf; rw [e1]; exact e2
theorem v_if0 (e1 : c σ h = .ok false h1) (e2 : B σ h1 = r) : sIf c A B σ h = r := by unfold sIf; rw [e1]; exact e2
theorem v_sub {q : W → W → W → AH → Option AH} {o j : EM} {u v w : W} {h4 : AH} (e1 : a σ h = .ok u h1) (e2 : o σ h1 = .ok v h2) (e3 : j σ h2 = .ok w h3) (e4 : q v w u h3 = some h4) : sSub q a o j σ h = .nx σ h4 := by
  unfold sSub; rw [e1]; show Res.toSR (o σ h1) _ _ = _; rw [e2]; show Res.toSR (j σ h2) _ _ = _; rw [e3]; show (match q v w u h3 with | some h4 => SR.nx σ h4 | none => .no) = _; rw [e4]
theorem v_fn {n kk : Nat} {ws : List W} (e0 : Nat.beq ws.length kk = true) (e1 : A (start n ws) h = .rt x h1) : callM n kk A ws h = .ok x h1 := by unfold callM; rw [e0]; dsimp only; rw [e1]
theorem v_ix {l : Nat} {ws : List W} {i : Int} {j : Nat} (e1 : h.get l = some (.lst ws)) (e2 : ixAt ws.length i = some j) (e3 : nth ws j = some x) : oIx (.ref l) (.int i) h = some (x, h) := by unfold oIx; dsimp only; rw [e1]; dsimp only; rw [e2]; dsimp only; rw [e3]
theorem v_six {l : Nat} {ws : List W} {i : Int} {j : Nat} (e1 : h.get l = some (.lst ws)) (e2 : ixAt ws.length i = some j) : oSetIx (.ref l) (.int i) x h = some (h.put l (.lst (ws.set j x))) := by unfold oSetIx; dsimp only; rw [e1]; dsimp only; rw [e2]
end
theorem FnG.tape {G : Gx} {P : Program} {w : World} {K : PySem.W.Frag} {mg : Str → Option Value} {k : Nat} {f : Addr} {fd : FuncData} {ps : List Str} {fn fn' : Fn} (F : FnG G P w K mg k f fd ps fn) (hl : ∀ ws h, fn' ws h ≠ .no → ws.length = ps.length)
    (hs : ∀ {m : Mp} {h : AH} {H : L2.Hp} {ws : List W} {vs : List L2.V} {Q : L2.VK} {E : L2.XK}, Rel G m h H → VRs G m ws vs → Sat G m E (VR G) (fn' ws h) Q → ∃ h2, Rel G m h2 H ∧ Sat G m E (VR G) (fn ws h2) Q) : FnG G P w K mg k f fd ps fn' where
  len := hl
  run := fun base A outer s H args us vs Q E m h ws hg hr e0 hb r R rw q => by
    obtain ⟨h2, R2, q2⟩ := hs R rw q
    exact F.run base A outer s H args us vs Q E m h2 ws hg hr e0 hb r R2 rw q2
end Pm
namespace Pm
open PySem PySem.Spec
open L2 (V Hp HO Cx Inv PE PT PA PS PSs XK WX Room Binds defScope defBody defArgs)
def topS (i : Nat) : Stmt := PySem.Challenge.pw_twinties_k04_errors_by_their_classes.main.body.getD i (.Pass ⟨0, 0, 0, 0⟩)
theorem takes0 {X : Cx} : L2.Takes X Z0 := L2.takes0
def nC : Nat := 16
def anc : Nat → List Nat
  | 0 => [0]
  | 1 => [1, 0]
  | 2 => [2, 0]
  | 3 => [3, 0]
  | 4 => [4, 0]
  | 5 => [5, 0]
  | 6 => [6, 0]
  | 7 => [7, 0]
  | 8 => [8, 0]
  | 9 => [9, 0]
  | 10 => [10, 0]
  | 11 => [11, 0]
  | 12 => [12, 0]
  | 13 => [13, 0]
  | 14 => [14, 0]
  | 15 => [15, 0]
  | _ => []
abbrev st__law_cell : Stmt := topS 20
theorem sc__law_cell : L2.FnScope ["_law_script", "_law_index"] ["_law_script", "_law_index"] (defScope st__law_cell) := ⟨rfl, rfl, rfl, by decide +kernel, rfl, by decide +kernel, by decide +kernel⟩
abbrev st__law_generator : Stmt := topS 21
theorem sc__law_generator : L2.FnScope ["_law_script", "_law_index", "_law_seed"] ["_law_script", "_law_index"] (defScope st__law_generator) := ⟨rfl, rfl, rfl, by decide +kernel, rfl, by decide +kernel, by decide +kernel⟩
abbrev st__law_hash : Stmt := topS 18
theorem sc__law_hash : L2.FnScope ["_law_seed", "_law_index", "_law_mixed"] ["_law_seed", "_law_index"] (defScope st__law_hash) := ⟨rfl, rfl, rfl, by decide +kernel, rfl, by decide +kernel, by decide +kernel⟩
abbrev st__law_random : Stmt := topS 19
theorem sc__law_random : L2.FnScope ["_law_generator_here", "_law_bound", "_law_drawn", "_law_turn"] ["_law_generator_here", "_law_bound"] (defScope st__law_random) := ⟨rfl, rfl, rfl, by decide +kernel, rfl, by decide +kernel, by decide +kernel⟩
abbrev st__law_made : Stmt := topS 22
theorem sc__law_made : L2.FnScope ["_law_value", "_law_found"] ["_law_value"] (defScope st__law_made) := ⟨rfl, rfl, rfl, by decide +kernel, rfl, by decide +kernel, by decide +kernel⟩
abbrev st__law_kinds : Stmt := topS 25
theorem sc__law_kinds : L2.FnScope ["_law_error", "_law_found"] ["_law_error"] (defScope st__law_kinds) := ⟨rfl, rfl, rfl, by decide +kernel, rfl, by decide +kernel, by decide +kernel⟩
abbrev st__law_row_right : Stmt := topS 26
theorem sc__law_row_right : L2.FnScope ["_law_errors", "_law_value", "_law_at", "_law_error", "_law_place"] ["_law_errors", "_law_value"] (defScope st__law_row_right) := ⟨rfl, rfl, rfl, by decide +kernel, rfl, by decide +kernel, by decide +kernel⟩
abbrev st__law_empty : Stmt := topS 24
theorem sc__law_empty : L2.FnScope ["_law_found"] [] (defScope st__law_empty) := ⟨rfl, rfl, rfl, by decide +kernel, rfl, by decide +kernel, by decide +kernel⟩
abbrev st__law_by_name : Stmt := topS 23
theorem sc__law_by_name : L2.FnScope ["_law_value", "_law_found"] ["_law_value"] (defScope st__law_by_name) := ⟨rfl, rfl, rfl, by decide +kernel, rfl, by decide +kernel, by decide +kernel⟩
abbrev st_law : Stmt := topS 27
theorem sc_law : L2.FnScope ["_law_script", "_law_generator_here", "_law_number", "_law_value", "_law_odd", "_law_grown", "_law_error", "_law_at", "_law_place"] ["_law_script"] (defScope st_law) := ⟨rfl, rfl, rfl, by decide +kernel, rfl, by decide +kernel, by decide +kernel⟩
structure Facts (G : Gx) (P : Program) (K : PySem.W.Frag) (mg : Str → Option Value) (f : Nat → Addr) (fd : Nat → FuncData) : Prop where
  hK : K = G.K
  anc : Anc K G.ga nC anc
  cls : ∀ c < nC, ClsF K (G.ga c)
  c_TieError : mg "TieError" = some (.ref (G.ga 0))
  x_TieError : PySem.W.excIn K (G.ga 0) PySem.HandSPX.veTail "ValueError.__new__" = true
  c_InvalidNumber : mg "InvalidNumber" = some (.ref (G.ga 1))
  t_InvalidNumber : ∃ fI qual, PySem.TieX.TieTxt P K (G.ga 1) fI qual
  c_InvalidCompany : mg "InvalidCompany" = some (.ref (G.ga 2))
  t_InvalidCompany : ∃ fI qual, PySem.TieX.TieTxt P K (G.ga 2) fI qual
  c_InvalidPerson : mg "InvalidPerson" = some (.ref (G.ga 3))
  t_InvalidPerson : ∃ fI qual, PySem.TieX.TieTxt P K (G.ga 3) fI qual
  c_InvalidCouple : mg "InvalidCouple" = some (.ref (G.ga 4))
  t_InvalidCouple : ∃ fI qual, PySem.TieX.TieTxt P K (G.ga 4) fI qual
  c_InvalidLot : mg "InvalidLot" = some (.ref (G.ga 5))
  t_InvalidLot : ∃ fI qual, PySem.TieX.TieTxt P K (G.ga 5) fI qual
  c_InvalidDeed : mg "InvalidDeed" = some (.ref (G.ga 6))
  t_InvalidDeed : ∃ fI qual, PySem.TieX.TieTxt P K (G.ga 6) fI qual
  c_InvalidPrices : mg "InvalidPrices" = some (.ref (G.ga 7))
  t_InvalidPrices : ∃ fI qual, PySem.TieX.TieTxt P K (G.ga 7) fI qual
  c_InvalidWishes : mg "InvalidWishes" = some (.ref (G.ga 8))
  t_InvalidWishes : ∃ fI qual, PySem.TieX.TieTxt P K (G.ga 8) fI qual
  c_InvalidProgram : mg "InvalidProgram" = some (.ref (G.ga 9))
  t_InvalidProgram : ∃ fI qual, PySem.TieX.TieTxt P K (G.ga 9) fI qual
  c_InvalidLeague : mg "InvalidLeague" = some (.ref (G.ga 10))
  t_InvalidLeague : ∃ fI qual, PySem.TieX.TieTxt P K (G.ga 10) fI qual
  c_InvalidLine : mg "InvalidLine" = some (.ref (G.ga 11))
  t_InvalidLine : ∃ fI qual, PySem.TieX.TieTxt P K (G.ga 11) fI qual
  c_Unlike : mg "Unlike" = some (.ref (G.ga 12))
  t_Unlike : ∃ fI qual, PySem.TieX.TieTxt P K (G.ga 12) fI qual
  c_TooMany : mg "TooMany" = some (.ref (G.ga 13))
  t_TooMany : ∃ fI qual, PySem.TieX.TieTxt P K (G.ga 13) fI qual
  c_NothingToUndo : mg "NothingToUndo" = some (.ref (G.ga 14))
  x_NothingToUndo : PySem.W.excIn K (G.ga 14) PySem.HandSPX.veTail "ValueError.__new__" = true
  c_NothingToRedo : mg "NothingToRedo" = some (.ref (G.ga 15))
  x_NothingToRedo : PySem.W.excIn K (G.ga 15) PySem.HandSPX.veTail "ValueError.__new__" = true
  z_ValueError : mg "ValueError" = none
  z_enumerate : mg "enumerate" = none
  z_int : mg "int" = none
  z_isinstance : mg "isinstance" = none
  z_len : mg "len" = none
  z_max : mg "max" = none
  z_range : mg "range" = none
  z_repr : mg "repr" = none
  z_sum : mg "sum" = none
  z_super : mg "super" = none
  d__law_cell : Df K mg "_law_cell" st__law_cell (f 0) (fd 0)
  d__law_generator : Df K mg "_law_generator" st__law_generator (f 1) (fd 1)
  d__law_hash : Df K mg "_law_hash" st__law_hash (f 2) (fd 2)
  d__law_random : Df K mg "_law_random" st__law_random (f 3) (fd 3)
  d__law_made : Df K mg "_law_made" st__law_made (f 4) (fd 4)
  d__law_kinds : Df K mg "_law_kinds" st__law_kinds (f 5) (fd 5)
  d__law_row_right : Df K mg "_law_row_right" st__law_row_right (f 6) (fd 6)
  d__law_empty : Df K mg "_law_empty" st__law_empty (f 7) (fd 7)
  d__law_by_name : Df K mg "_law_by_name" st__law_by_name (f 8) (fd 8)
  d_law : Df K mg "law" st_law (f 9) (fd 9)
theorem Facts.no {G : Gx} {P : Program} {K : PySem.W.Frag} {mg : Str → Option Value} {f : Nat → Addr} {fd : Nat → FuncData} (T : Facts G P K mg f fd) : ∀ c < nC, PySem.W.findIn K (.ref (G.ga c)) "value" = some none := fun c h => (T.cls c h).no
section
variable {G : Gx} {P : Program} {w : World} {K : PySem.W.Frag} {mg : Str → Option Value} {f : Nat → Addr} {fd : Nat → FuncData} (T : Facts G P K mg f fd)
include T
theorem Facts.b__law_cell : Binds K (fd 0) ["_law_script", "_law_index"] [] := T.d__law_cell.F.binds (ps := ["_law_script", "_law_index"]) fun _ _ _ _ _ _ us hl => match us, hl with | [_, _], _ => rfl
theorem Facts.b__law_generator : Binds K (fd 1) ["_law_script", "_law_index"] [] := T.d__law_generator.F.binds (ps := ["_law_script", "_law_index"]) fun _ _ _ _ _ _ us hl => match us, hl with | [_, _], _ => rfl
theorem Facts.b__law_hash : Binds K (fd 2) ["_law_seed", "_law_index"] [] := T.d__law_hash.F.binds (ps := ["_law_seed", "_law_index"]) fun _ _ _ _ _ _ us hl => match us, hl with | [_, _], _ => rfl
theorem Facts.b__law_random : Binds K (fd 3) ["_law_generator_here", "_law_bound"] [] := T.d__law_random.F.binds (ps := ["_law_generator_here", "_law_bound"]) fun _ _ _ _ _ _ us hl => match us, hl with | [_, _], _ => rfl
theorem Facts.b__law_made : Binds K (fd 4) ["_law_value"] [] := T.d__law_made.F.binds (ps := ["_law_value"]) fun _ _ _ _ _ _ us hl => match us, hl with | [_], _ => rfl
theorem Facts.b__law_kinds : Binds K (fd 5) ["_law_error"] [] := T.d__law_kinds.F.binds (ps := ["_law_error"]) fun _ _ _ _ _ _ us hl => match us, hl with | [_], _ => rfl
theorem Facts.b__law_row_right : Binds K (fd 6) ["_law_errors", "_law_value"] [] := T.d__law_row_right.F.binds (ps := ["_law_errors", "_law_value"]) fun _ _ _ _ _ _ us hl => match us, hl with | [_, _], _ => rfl
theorem Facts.b__law_empty : Binds K (fd 7) [] [] := T.d__law_empty.F.binds (ps := []) fun _ _ _ _ _ _ us hl => match us, hl with | [], _ => rfl
theorem Facts.b__law_by_name : Binds K (fd 8) ["_law_value"] [] := T.d__law_by_name.F.binds (ps := ["_law_value"]) fun _ _ _ _ _ _ us hl => match us, hl with | [_], _ => rfl
theorem Facts.b_law : Binds K (fd 9) ["_law_script"] [] := T.d_law.F.binds (ps := ["_law_script"]) fun _ _ _ _ _ _ us hl => match us, hl with | [_], _ => rfl
end
section
variable {G : Gx} {P : Program} {w : World} {K : PySem.W.Frag} {mg : Str → Option Value} {f : Nat → Addr} {fd : Nat → FuncData}
def m__law_cell : SM := sSeq (sIf (cVal (eOp2 oLt (eVar 1) (eOpN oLen [eVar 0]))) (sRet (eOp2 oIx (eVar 0) (eVar 1))) (sNx)) (sRet (eOp2 oMod (eOpN (oInts fun is h => some (.int (isum is), h)) [eCut (eVar 0) (oNone) (oSome (eC (.int 1)))]) (eC (.int 1000003))))
def f__law_cell : Fn := callM 2 2 (m__law_cell)
theorem Facts.f__law_cell (T : Facts G P K mg f fd) : FnG G P w K mg 1 (f 0) (fd 0) ["_law_script", "_law_index"] (f__law_cell) := fn_okN (k := 0) (b := m__law_cell) 2 2 T.d__law_cell.F sc__law_cell (fun base cdv A outer s H E hgd hr =>
  pms_cons (pms_if (pmt_cmp or_lt (pm_var (i := 1)) (pm_callB (cr_len T.hK) (by rfl) T.z_len bt_len (pma_cons (pm_var (i := 0)) (pma_nil)))) (pms_one (pms_ret (pm_ix (pm_var (i := 0)) (pm_var (i := 1)) T.hK))) (pms_nil))
  (pms_one (pms_ret (pm_op2 or_mod (pm_callB (cr_sum rfl T.hK) (by rfl) T.z_sum bt_sum (pma_cons (pm_cut (pm_var (i := 0)) (pmo_none) (pmo_some (pm_int)) T.hK) (pma_nil))) (pm_int))))) rfl
def m__law_generator : SM := sSeq (sSet 2 (eCall f__law_cell [eVar 0, eVar 1])) (sRet (eOpN mkLst [eOp2 oMod (eOpN oInt [eOpN oMax2 [eOp2 oSub (eVar 2) (eOp2 oPow (eC (.int 10)) (eC (.int 18))), eC (.int 0)]]) (eOp2 oPow (eOp2 oPow (eC (.int 10)) (eC (.int 60))) (eC (.int 10))), eOp2 oMod (eOpN oInt [eVar 2]) (eC (.int 2147483647)), eOp2 oMulS (eC (.int 1000)) (eVar 1)]))
def f__law_generator : Fn := callM 3 2 (m__law_generator)
theorem Facts.f__law_generator (T : Facts G P K mg f fd) : FnG G P w K mg 2 (f 1) (fd 1) ["_law_script", "_law_index"] (f__law_generator) := fn_okN (k := 1) (b := m__law_generator) 3 2 T.d__law_generator.F sc__law_generator (fun base cdv A outer s H E hgd hr =>
  pms_cons (pms_set (i := 2) sc__law_generator.nd (pm_call (T.f__law_cell.mono (by decide)) hgd hr (by rfl) T.d__law_cell.m T.d__law_cell.F.kp T.b__law_cell (L2.takes_of rfl rfl rfl rfl) (pma_cons (pm_var (i := 0)) (pma_cons (pm_var (i := 1)) (pma_nil)))))
  (pms_one (pms_ret (pm_lst (pma_cons (pm_op2 or_mod (pm_callTy cr_int (by rfl) T.z_int bt_int (pma_cons (pm_callB (cr_max2 rfl) (by rfl) T.z_max bt_max (pma_cons (pm_op2 or_sub (pm_var (i := 2)) (pm_op2 or_pow (pm_int) (pm_int))) (pma_cons (pm_int) (pma_nil)))) (pma_nil))) (pm_op2 or_pow (pm_op2 or_pow (pm_int) (pm_int)) (pm_int))) (pma_cons (pm_op2 or_mod (pm_callTy cr_int (by rfl) T.z_int bt_int (pma_cons (pm_var (i := 2)) (pma_nil))) (pm_int)) (pma_cons (pm_op2 or_mulS (pm_int) (pm_var (i := 1))) (pma_nil)))))))) rfl
def m__law_hash : SM := sSeq (sSet 2 (eOp2 oMod (eOpN oInt [eOp2 oAdd (eOp2 oAdd (eOp2 oAdd (eOp2 oMulS (eVar 0) (eC (.int 1140671))) (eOp2 oMulS (eOp2 oMulS (eC (.int 27644437)) (eVar 1)) (eVar 1))) (eOp2 oMulS (eC (.int 131)) (eVar 1))) (eC (.int 19))]) (eC (.int 2147483629)))) (sSeq (sSet 2 (eOp2 oMod (eOpN oInt [eOp2 oAdd (eOp2 oAdd (eOp2 oMulS (eVar 2) (eVar 2)) (eOp2 oMulS (eC (.int 62089)) (eVar 1))) (eC (.int 32416187))]) (eC (.int 2147483587)))) (sRet (eOp2 oMod (eOpN oInt [eOp2 oMulS (eVar 2) (eC (.int 48271))]) (eC (.int 2147483647)))))
def f__law_hash : Fn := callM 3 2 (m__law_hash)
theorem Facts.f__law_hash (T : Facts G P K mg f fd) : FnG G P w K mg 1 (f 2) (fd 2) ["_law_seed", "_law_index"] (f__law_hash) := fn_okN (k := 0) (b := m__law_hash) 3 2 T.d__law_hash.F sc__law_hash (fun base cdv A outer s H E hgd hr =>
  pms_cons (pms_set (i := 2) sc__law_hash.nd (pm_op2 or_mod (pm_callTy cr_int (by rfl) T.z_int bt_int (pma_cons (pm_op2 or_add (pm_op2 or_add (pm_op2 or_add (pm_op2 or_mulS (pm_var (i := 0)) (pm_int)) (pm_op2 or_mulS (pm_op2 or_mulS (pm_int) (pm_var (i := 1))) (pm_var (i := 1)))) (pm_op2 or_mulS (pm_int) (pm_var (i := 1)))) (pm_int)) (pma_nil))) (pm_int)))
  (pms_cons (pms_set (i := 2) sc__law_hash.nd (pm_op2 or_mod (pm_callTy cr_int (by rfl) T.z_int bt_int (pma_cons (pm_op2 or_add (pm_op2 or_add (pm_op2 or_mulS (pm_var (i := 2)) (pm_var (i := 2))) (pm_op2 or_mulS (pm_int) (pm_var (i := 1)))) (pm_int)) (pma_nil))) (pm_int)))
  (pms_one (pms_ret (pm_op2 or_mod (pm_callTy cr_int (by rfl) T.z_int bt_int (pma_cons (pm_op2 or_mulS (pm_var (i := 2)) (pm_int)) (pma_nil))) (pm_int)))))) rfl
def m__law_random : SM := sSeq (sIf (cVal (eOp2 oGt (eOp2 oIx (eVar 0) (eC (.int 0))) (eC (.int 0)))) (sSeq (sSet 2 (eOp2 oMod (eOpN oInt [eOp2 oIx (eVar 0) (eC (.int 0))]) (eVar 1))) (sSeq (sSub oSetIx (eOp2 oFdiv (eOp2 oIx (eVar 0) (eC (.int 0))) (eVar 1)) (eVar 0) (eC (.int 0))) (sRet (eVar 2)))) (sNx)) (sSeq (sSet 2 (eC (.int 0))) (sSeq (sFor (iRng1 (eOp2 oAdd (eC (.int 1)) (eOp2 oFdiv (eOp1 oBits (eVar 1)) (eC (.int 30))))) (.nm 3) (sSeq (sSub oSetIx (eOp2 oAdd (eOp2 oIx (eVar 0) (eC (.int 2))) (eC (.int 1))) (eVar 0) (eC (.int 2))) (sSet 2 (eOp2 oAdd (eOp2 oMulS (eVar 2) (eC (.int 2147483587))) (eCall f__law_hash [eOp2 oIx (eVar 0) (eC (.int 1)), eOp2 oIx (eVar 0) (eC (.int 2))]))))) (sRet (eOp2 oMod (eOpN oInt [eVar 2]) (eVar 1)))))
def f__law_random : Fn := callM 4 2 (m__law_random)
theorem Facts.f__law_random (T : Facts G P K mg f fd) : FnG G P w K mg 2 (f 3) (fd 3) ["_law_generator_here", "_law_bound"] (f__law_random) := fn_okN (k := 1) (b := m__law_random) 4 2 T.d__law_random.F sc__law_random (fun base cdv A outer s H E hgd hr =>
  pms_cons (pms_if (pmt_cmp or_gt (pm_ix (pm_var (i := 0)) (pm_int) T.hK) (pm_int)) (pms_cons (pms_set (i := 2) sc__law_random.nd (pm_op2 or_mod (pm_callTy cr_int (by rfl) T.z_int bt_int (pma_cons (pm_ix (pm_var (i := 0)) (pm_int) T.hK) (pma_nil))) (pm_var (i := 1))))
  (pms_cons (pms_sub ps_setIx (pm_op2 or_fdiv (pm_ix (pm_var (i := 0)) (pm_int) T.hK) (pm_var (i := 1))) (pm_var (i := 0)) (pm_int))
  (pms_one (pms_ret (pm_var (i := 2)))))) (pms_nil))
  (pms_cons (pms_set (i := 2) sc__law_random.nd (pm_int))
  (pms_cons (pms_for (t := .nm 3) (L2.passes_of rfl) rfl (pmi_rng1 (by rfl) T.z_range (pm_op2 or_add (pm_int) (pm_op2 or_fdiv (pm_bits (pm_var (i := 1))) (pm_int)))) (pmg_nm (i := 3) sc__law_random.nd) (pms_cons (pms_sub ps_setIx (pm_op2 or_add (pm_ix (pm_var (i := 0)) (pm_int) T.hK) (pm_int)) (pm_var (i := 0)) (pm_int))
  (pms_one (pms_set (i := 2) sc__law_random.nd (pm_op2 or_add (pm_op2 or_mulS (pm_var (i := 2)) (pm_int)) (pm_call (T.f__law_hash.mono (by decide)) hgd hr (by rfl) T.d__law_hash.m T.d__law_hash.F.kp T.b__law_hash (L2.takes_of rfl rfl rfl rfl) (pma_cons (pm_ix (pm_var (i := 0)) (pm_int) T.hK) (pma_cons (pm_ix (pm_var (i := 0)) (pm_int) T.hK) (pma_nil)))))))))
  (pms_one (pms_ret (pm_op2 or_mod (pm_callTy cr_int (by rfl) T.z_int bt_int (pma_cons (pm_var (i := 2)) (pma_nil))) (pm_var (i := 1)))))))) rfl
def m__law_made : SM := sSeq (sSet 1 (eOpN mkLst [eOp1 (oMk 1) (eVar 0), eOp1 (oMk 2) (eVar 0), eOp1 (oMk 3) (eVar 0), eOp1 (oMk 4) (eVar 0), eOp1 (oMk 5) (eVar 0)])) (sSeq (sSet 1 (eOp2 oAdd (eVar 1) (eOpN mkLst [eOp1 (oMk 6) (eVar 0), eOp1 (oMk 7) (eVar 0), eOp1 (oMk 8) (eVar 0), eOp1 (oMk 9) (eVar 0)]))) (sRet (eOp2 oAdd (eVar 1) (eOpN mkLst [eOp1 (oMk 10) (eVar 0), eOp1 (oMk 11) (eVar 0), eOp1 (oMk 12) (eVar 0), eOp1 (oMk 13) (eVar 0)]))))
def f__law_made : Fn := callM 2 1 (m__law_made)
theorem Facts.f__law_made (T : Facts G P K mg f fd) : FnG G P w K mg 1 (f 4) (fd 4) ["_law_value"] (f__law_made) := fn_okN (k := 0) (b := m__law_made) 2 1 T.d__law_made.F sc__law_made (fun base cdv A outer s H E hgd hr =>
  pms_cons (pms_set (i := 1) sc__law_made.nd (pm_lst (pma_cons (mkE (c := 1) T.t_InvalidNumber T.z_super hr (by rfl) T.c_InvalidNumber (pm_var (i := 0))) (pma_cons (mkE (c := 2) T.t_InvalidCompany T.z_super hr (by rfl) T.c_InvalidCompany (pm_var (i := 0))) (pma_cons (mkE (c := 3) T.t_InvalidPerson T.z_super hr (by rfl) T.c_InvalidPerson (pm_var (i := 0))) (pma_cons (mkE (c := 4) T.t_InvalidCouple T.z_super hr (by rfl) T.c_InvalidCouple (pm_var (i := 0))) (pma_cons (mkE (c := 5) T.t_InvalidLot T.z_super hr (by rfl) T.c_InvalidLot (pm_var (i := 0))) (pma_nil))))))))
  (pms_cons (pms_set (i := 1) sc__law_made.nd (pm_op2 or_add (pm_var (i := 1)) (pm_lst (pma_cons (mkE (c := 6) T.t_InvalidDeed T.z_super hr (by rfl) T.c_InvalidDeed (pm_var (i := 0))) (pma_cons (mkE (c := 7) T.t_InvalidPrices T.z_super hr (by rfl) T.c_InvalidPrices (pm_var (i := 0))) (pma_cons (mkE (c := 8) T.t_InvalidWishes T.z_super hr (by rfl) T.c_InvalidWishes (pm_var (i := 0))) (pma_cons (mkE (c := 9) T.t_InvalidProgram T.z_super hr (by rfl) T.c_InvalidProgram (pm_var (i := 0))) (pma_nil))))))))
  (pms_one (pms_ret (pm_op2 or_add (pm_var (i := 1)) (pm_lst (pma_cons (mkE (c := 10) T.t_InvalidLeague T.z_super hr (by rfl) T.c_InvalidLeague (pm_var (i := 0))) (pma_cons (mkE (c := 11) T.t_InvalidLine T.z_super hr (by rfl) T.c_InvalidLine (pm_var (i := 0))) (pma_cons (mkE (c := 12) T.t_Unlike T.z_super hr (by rfl) T.c_Unlike (pm_var (i := 0))) (pma_cons (mkE (c := 13) T.t_TooMany T.z_super hr (by rfl) T.c_TooMany (pm_var (i := 0))) (pma_nil))))))))))) rfl
def m__law_kinds : SM := sSeq (sSet 1 (eOpN mkLst [eOpN (oIsX nC anc) [eVar 0, eC (.glo 1)], eOpN (oIsX nC anc) [eVar 0, eC (.glo 2)], eOpN (oIsX nC anc) [eVar 0, eC (.glo 3)]])) (sSeq (sSet 1 (eOp2 oAdd (eVar 1) (eOpN mkLst [eOpN (oIsX nC anc) [eVar 0, eC (.glo 4)], eOpN (oIsX nC anc) [eVar 0, eC (.glo 5)], eOpN (oIsX nC anc) [eVar 0, eC (.glo 6)]]))) (sSeq (sSet 1 (eOp2 oAdd (eVar 1) (eOpN mkLst [eOpN (oIsX nC anc) [eVar 0, eC (.glo 7)], eOpN (oIsX nC anc) [eVar 0, eC (.glo 8)]]))) (sSeq (sSet 1 (eOp2 oAdd (eVar 1) (eOpN mkLst [eOpN (oIsX nC anc) [eVar 0, eC (.glo 9)], eOpN (oIsX nC anc) [eVar 0, eC (.glo 10)]]))) (sSeq (sSet 1 (eOp2 oAdd (eVar 1) (eOpN mkLst [eOpN (oIsX nC anc) [eVar 0, eC (.glo 11)], eOpN (oIsX nC anc) [eVar 0, eC (.glo 12)]]))) (sRet (eOp2 oAdd (eVar 1) (eOpN mkLst [eOpN (oIsX nC anc) [eVar 0, eC (.glo 13)], eOpN (oIsX nC anc) [eVar 0, eC (.glo 14)], eOpN (oIsX nC anc) [eVar 0, eC (.glo 15)]])))))))
def f__law_kinds : Fn := callM 2 1 (m__law_kinds)
theorem Facts.f__law_kinds (T : Facts G P K mg f fd) : FnG G P w K mg 1 (f 5) (fd 5) ["_law_error"] (f__law_kinds) := fn_okN (k := 0) (b := m__law_kinds) 2 1 T.d__law_kinds.F sc__law_kinds (fun base cdv A outer s H E hgd hr =>
  pms_cons (pms_set (i := 1) sc__law_kinds.nd (pm_lst (pma_cons (pm_callB (cr_isX T.anc T.hK) (by rfl) T.z_isinstance bt_isi (pma_cons (pm_var (i := 0)) (pma_cons (pm_glob (g := 1) (by rfl) T.c_InvalidNumber) (pma_nil)))) (pma_cons (pm_callB (cr_isX T.anc T.hK) (by rfl) T.z_isinstance bt_isi (pma_cons (pm_var (i := 0)) (pma_cons (pm_glob (g := 2) (by rfl) T.c_InvalidCompany) (pma_nil)))) (pma_cons (pm_callB (cr_isX T.anc T.hK) (by rfl) T.z_isinstance bt_isi (pma_cons (pm_var (i := 0)) (pma_cons (pm_glob (g := 3) (by rfl) T.c_InvalidPerson) (pma_nil)))) (pma_nil))))))
  (pms_cons (pms_set (i := 1) sc__law_kinds.nd (pm_op2 or_add (pm_var (i := 1)) (pm_lst (pma_cons (pm_callB (cr_isX T.anc T.hK) (by rfl) T.z_isinstance bt_isi (pma_cons (pm_var (i := 0)) (pma_cons (pm_glob (g := 4) (by rfl) T.c_InvalidCouple) (pma_nil)))) (pma_cons (pm_callB (cr_isX T.anc T.hK) (by rfl) T.z_isinstance bt_isi (pma_cons (pm_var (i := 0)) (pma_cons (pm_glob (g := 5) (by rfl) T.c_InvalidLot) (pma_nil)))) (pma_cons (pm_callB (cr_isX T.anc T.hK) (by rfl) T.z_isinstance bt_isi (pma_cons (pm_var (i := 0)) (pma_cons (pm_glob (g := 6) (by rfl) T.c_InvalidDeed) (pma_nil)))) (pma_nil)))))))
  (pms_cons (pms_set (i := 1) sc__law_kinds.nd (pm_op2 or_add (pm_var (i := 1)) (pm_lst (pma_cons (pm_callB (cr_isX T.anc T.hK) (by rfl) T.z_isinstance bt_isi (pma_cons (pm_var (i := 0)) (pma_cons (pm_glob (g := 7) (by rfl) T.c_InvalidPrices) (pma_nil)))) (pma_cons (pm_callB (cr_isX T.anc T.hK) (by rfl) T.z_isinstance bt_isi (pma_cons (pm_var (i := 0)) (pma_cons (pm_glob (g := 8) (by rfl) T.c_InvalidWishes) (pma_nil)))) (pma_nil))))))
  (pms_cons (pms_set (i := 1) sc__law_kinds.nd (pm_op2 or_add (pm_var (i := 1)) (pm_lst (pma_cons (pm_callB (cr_isX T.anc T.hK) (by rfl) T.z_isinstance bt_isi (pma_cons (pm_var (i := 0)) (pma_cons (pm_glob (g := 9) (by rfl) T.c_InvalidProgram) (pma_nil)))) (pma_cons (pm_callB (cr_isX T.anc T.hK) (by rfl) T.z_isinstance bt_isi (pma_cons (pm_var (i := 0)) (pma_cons (pm_glob (g := 10) (by rfl) T.c_InvalidLeague) (pma_nil)))) (pma_nil))))))
  (pms_cons (pms_set (i := 1) sc__law_kinds.nd (pm_op2 or_add (pm_var (i := 1)) (pm_lst (pma_cons (pm_callB (cr_isX T.anc T.hK) (by rfl) T.z_isinstance bt_isi (pma_cons (pm_var (i := 0)) (pma_cons (pm_glob (g := 11) (by rfl) T.c_InvalidLine) (pma_nil)))) (pma_cons (pm_callB (cr_isX T.anc T.hK) (by rfl) T.z_isinstance bt_isi (pma_cons (pm_var (i := 0)) (pma_cons (pm_glob (g := 12) (by rfl) T.c_Unlike) (pma_nil)))) (pma_nil))))))
  (pms_one (pms_ret (pm_op2 or_add (pm_var (i := 1)) (pm_lst (pma_cons (pm_callB (cr_isX T.anc T.hK) (by rfl) T.z_isinstance bt_isi (pma_cons (pm_var (i := 0)) (pma_cons (pm_glob (g := 13) (by rfl) T.c_TooMany) (pma_nil)))) (pma_cons (pm_callB (cr_isX T.anc T.hK) (by rfl) T.z_isinstance bt_isi (pma_cons (pm_var (i := 0)) (pma_cons (pm_glob (g := 14) (by rfl) T.c_NothingToUndo) (pma_nil)))) (pma_cons (pm_callB (cr_isX T.anc T.hK) (by rfl) T.z_isinstance bt_isi (pma_cons (pm_var (i := 0)) (pma_cons (pm_glob (g := 15) (by rfl) T.c_NothingToRedo) (pma_nil)))) (pma_nil))))))))))))) rfl
def m__law_row_right : SM := sSeq (sFor (iEnu (eVar 0)) (.tp [2, 3]) (sSeq (sIf (cOr (cNot (cVal (eOpN (oIsX nC anc) [eVar 3, eC (.glo 0)]))) (cNot (cVal (eOpN (oIsX nC anc) [eVar 3, eC (.ty .verr)])))) (sRet (eC (.bl false))) (sNx)) (sSeq (sIf (cVal (eOp2 oNe (eCall f__law_kinds [eVar 3]) (eLc (iRng1 (eC (.int 15))) (.nm 4) [4] (cYes) (eOp2 oEq (eVar 4) (eVar 2))))) (sRet (eC (.bl false))) (sNx)) (sIf (cOr (cNot (cVal (eOp2 oEq (eOp1 (oVal nC) (eVar 3)) (eVar 1)))) (cVal (eOp2 oNe (eOpN oRepr [eOp1 (oVal nC) (eVar 3)]) (eOpN oRepr [eVar 1])))) (sRet (eC (.bl false))) (sNx))))) (sRet (eC (.bl true)))
def f__law_row_right : Fn := callM 5 2 (m__law_row_right)
theorem Facts.f__law_row_right (T : Facts G P K mg f fd) : FnG G P w K mg 2 (f 6) (fd 6) ["_law_errors", "_law_value"] (f__law_row_right) := fn_okN (k := 1) (b := m__law_row_right) 5 2 T.d__law_row_right.F sc__law_row_right (fun base cdv A outer s H E hgd hr =>
  pms_cons (pms_for (t := .tp [2, 3]) (L2.passes_of rfl) rfl (pmi_enu (by rfl) T.z_enumerate (pm_var (i := 0))) (pmg_tp rfl (pmgs_cons (i := 2) sc__law_row_right.nd (pmgs_cons (i := 3) sc__law_row_right.nd (pmgs_nil)))) (pms_cons (pms_if ((pmw_or (pmt_not (pmt_val (pm_callB (cr_isX T.anc T.hK) (by rfl) T.z_isinstance bt_isi (pma_cons (pm_var (i := 3)) (pma_cons (pm_glob (g := 0) (by rfl) T.c_TieError) (pma_nil)))))) (pmw_or1 (pmt_not (pmt_val (pm_callB (cr_isX T.anc T.hK) (by rfl) T.z_isinstance bt_isi (pma_cons (pm_var (i := 3)) (pma_cons (pm_ty (n := .verr) (by rfl) T.z_ValueError bt_verr) (pma_nil)))))))).pt) (pms_one (pms_ret (pm_bl))) (pms_nil))
  (pms_cons (pms_if (pmt_cmp (or_ne hr) (pm_call (T.f__law_kinds.mono (by decide)) hgd hr (by rfl) T.d__law_kinds.m T.d__law_kinds.F.kp T.b__law_kinds (L2.takes_of rfl rfl rfl rfl) (pma_cons (pm_var (i := 3)) (pma_nil))) (pm_lc (t := .nm 4) [("_law_place", 4)] rfl sc__law_row_right.nd (pmi_rng1 (by rfl) T.z_range (pm_int)) (L2.blkOk_by (by kernel_rfl)) (fun _ _ _ _ _ => pmg_nm (i := 4) sc__law_row_right.nd) (fun _ _ _ _ _ => pmts_nil) (fun _ _ _ _ _ => pm_cmp (or_eq hr) (pm_var (i := 4)) (pm_var (i := 2))))) (pms_one (pms_ret (pm_bl))) (pms_nil))
  (pms_one (pms_if ((pmw_or (pmt_not (pmt_cmp (or_eq hr) (pm_val T.anc T.no (pm_var (i := 3))) (pm_var (i := 1)))) (pmw_or1 (pmt_cmp (or_ne hr) (pm_callB (cr_repr hr hgd) (by rfl) T.z_repr bt_repr (pma_cons (pm_val T.anc T.no (pm_var (i := 3))) (pma_nil))) (pm_callB (cr_repr hr hgd) (by rfl) T.z_repr bt_repr (pma_cons (pm_var (i := 1)) (pma_nil)))))).pt) (pms_one (pms_ret (pm_bl))) (pms_nil))))))
  (pms_one (pms_ret (pm_bl)))) rfl
def m__law_empty : SM := sSeq (sSet 0 (eOpN mkLst [eOp1 (oMk 1) (eC .non), eOp1 (oMk 2) (eC .non), eOp1 (oMk 3) (eC .non), eOp1 (oMk 4) (eC .non), eOp1 (oMk 5) (eC .non), eOp1 (oMk 6) (eC .non)])) (sSeq (sSet 0 (eOp2 oAdd (eVar 0) (eOpN mkLst [eOp1 (oMk 7) (eC .non), eOp1 (oMk 8) (eC .non), eOp1 (oMk 9) (eC .non), eOp1 (oMk 10) (eC .non), eOp1 (oMk 11) (eC .non), eOp1 (oMk 12) (eC .non)]))) (sRet (eOp2 oAdd (eVar 0) (eOpN mkLst [eOp1 (oMk 13) (eC .non)]))))
def f__law_empty : Fn := callM 1 0 (m__law_empty)
theorem Facts.f__law_empty (T : Facts G P K mg f fd) : FnG G P w K mg 1 (f 7) (fd 7) [] (f__law_empty) := fn_okN (k := 0) (b := m__law_empty) 1 0 T.d__law_empty.F sc__law_empty (fun base cdv A outer s H E hgd hr =>
  pms_cons (pms_set (i := 0) sc__law_empty.nd (pm_lst (pma_cons (mkE0 (c := 1) T.t_InvalidNumber T.z_super hr (by rfl) T.c_InvalidNumber) (pma_cons (mkE0 (c := 2) T.t_InvalidCompany T.z_super hr (by rfl) T.c_InvalidCompany) (pma_cons (mkE0 (c := 3) T.t_InvalidPerson T.z_super hr (by rfl) T.c_InvalidPerson) (pma_cons (mkE0 (c := 4) T.t_InvalidCouple T.z_super hr (by rfl) T.c_InvalidCouple) (pma_cons (mkE0 (c := 5) T.t_InvalidLot T.z_super hr (by rfl) T.c_InvalidLot) (pma_cons (mkE0 (c := 6) T.t_InvalidDeed T.z_super hr (by rfl) T.c_InvalidDeed) (pma_nil)))))))))
  (pms_cons (pms_set (i := 0) sc__law_empty.nd (pm_op2 or_add (pm_var (i := 0)) (pm_lst (pma_cons (mkE0 (c := 7) T.t_InvalidPrices T.z_super hr (by rfl) T.c_InvalidPrices) (pma_cons (mkE0 (c := 8) T.t_InvalidWishes T.z_super hr (by rfl) T.c_InvalidWishes) (pma_cons (mkE0 (c := 9) T.t_InvalidProgram T.z_super hr (by rfl) T.c_InvalidProgram) (pma_cons (mkE0 (c := 10) T.t_InvalidLeague T.z_super hr (by rfl) T.c_InvalidLeague) (pma_cons (mkE0 (c := 11) T.t_InvalidLine T.z_super hr (by rfl) T.c_InvalidLine) (pma_cons (mkE0 (c := 12) T.t_Unlike T.z_super hr (by rfl) T.c_Unlike) (pma_nil))))))))))
  (pms_one (pms_ret (pm_op2 or_add (pm_var (i := 0)) (pm_lst (pma_cons (mkE0 (c := 13) T.t_TooMany T.z_super hr (by rfl) T.c_TooMany) (pma_nil)))))))) rfl
def m__law_by_name : SM := sSeq (sSet 1 (eOpN mkLst [eOp1 (oMk 1) (eVar 0), eOp1 (oMk 2) (eVar 0), eOp1 (oMk 3) (eVar 0)])) (sSeq (sSet 1 (eOp2 oAdd (eVar 1) (eOpN mkLst [eOp1 (oMk 4) (eVar 0), eOp1 (oMk 5) (eVar 0), eOp1 (oMk 6) (eVar 0)]))) (sSeq (sSet 1 (eOp2 oAdd (eVar 1) (eOpN mkLst [eOp1 (oMk 7) (eVar 0), eOp1 (oMk 8) (eVar 0), eOp1 (oMk 9) (eVar 0)]))) (sRet (eOp2 oAdd (eVar 1) (eOpN mkLst [eOp1 (oMk 10) (eVar 0), eOp1 (oMk 11) (eVar 0), eOp1 (oMk 12) (eVar 0), eOp1 (oMk 13) (eVar 0)])))))
def f__law_by_name : Fn := callM 2 1 (m__law_by_name)
theorem Facts.f__law_by_name (T : Facts G P K mg f fd) : FnG G P w K mg 1 (f 8) (fd 8) ["_law_value"] (f__law_by_name) := fn_okN (k := 0) (b := m__law_by_name) 2 1 T.d__law_by_name.F sc__law_by_name (fun base cdv A outer s H E hgd hr =>
  pms_cons (pms_set (i := 1) sc__law_by_name.nd (pm_lst (pma_cons (mkEK (c := 1) T.t_InvalidNumber T.z_super hr (by rfl) T.c_InvalidNumber (pm_var (i := 0))) (pma_cons (mkEK (c := 2) T.t_InvalidCompany T.z_super hr (by rfl) T.c_InvalidCompany (pm_var (i := 0))) (pma_cons (mkEK (c := 3) T.t_InvalidPerson T.z_super hr (by rfl) T.c_InvalidPerson (pm_var (i := 0))) (pma_nil))))))
  (pms_cons (pms_set (i := 1) sc__law_by_name.nd (pm_op2 or_add (pm_var (i := 1)) (pm_lst (pma_cons (mkEK (c := 4) T.t_InvalidCouple T.z_super hr (by rfl) T.c_InvalidCouple (pm_var (i := 0))) (pma_cons (mkEK (c := 5) T.t_InvalidLot T.z_super hr (by rfl) T.c_InvalidLot (pm_var (i := 0))) (pma_cons (mkEK (c := 6) T.t_InvalidDeed T.z_super hr (by rfl) T.c_InvalidDeed (pm_var (i := 0))) (pma_nil)))))))
  (pms_cons (pms_set (i := 1) sc__law_by_name.nd (pm_op2 or_add (pm_var (i := 1)) (pm_lst (pma_cons (mkEK (c := 7) T.t_InvalidPrices T.z_super hr (by rfl) T.c_InvalidPrices (pm_var (i := 0))) (pma_cons (mkEK (c := 8) T.t_InvalidWishes T.z_super hr (by rfl) T.c_InvalidWishes (pm_var (i := 0))) (pma_cons (mkEK (c := 9) T.t_InvalidProgram T.z_super hr (by rfl) T.c_InvalidProgram (pm_var (i := 0))) (pma_nil)))))))
  (pms_one (pms_ret (pm_op2 or_add (pm_var (i := 1)) (pm_lst (pma_cons (mkEK (c := 10) T.t_InvalidLeague T.z_super hr (by rfl) T.c_InvalidLeague (pm_var (i := 0))) (pma_cons (mkEK (c := 11) T.t_InvalidLine T.z_super hr (by rfl) T.c_InvalidLine (pm_var (i := 0))) (pma_cons (mkEK (c := 12) T.t_Unlike T.z_super hr (by rfl) T.c_Unlike (pm_var (i := 0))) (pma_cons (mkEK (c := 13) T.t_TooMany T.z_super hr (by rfl) T.c_TooMany (pm_var (i := 0))) (pma_nil)))))))))))) rfl
def m_law (genM : Fn) (ranM : Fn) : SM := sSeq (sSet 1 (eCall genM [eVar 0, eC (.int 0)])) (sSeq (sSet 2 (eCall ranM [eVar 1, eOp2 oPow (eC (.int 10)) (eC (.int 30))])) (sSeq (sFor (iSeq (eOpN mkLst [eC .non, eVar 2, eOp2 oMulS (eC (.txt (.str [97, 98]))) (eCall ranM [eVar 1, eC (.int 3)]), eOpN mkTup [eC (.txt (.str [120])), eOpN mkLst [eVar 2]], eD1 (.inr [97]) (eC (.int 1)), eC (.bl true)])) (.nm 3) (sIf (cOr (cNot (cVal (eCall f__law_row_right [eCall f__law_made [eVar 3], eVar 3]))) (cNot (cVal (eCall f__law_row_right [eCall f__law_by_name [eVar 3], eVar 3])))) (sRet (eC (.bl false))) (sNx))) (sSeq (sIf (cNot (cVal (eCall f__law_row_right [eCall f__law_empty [], eC .non]))) (sRet (eC (.bl false))) (sNx)) (sSeq (sSet 4 (eOpN mkLst [eVar 2])) (sSeq (sSet 5 (eCall f__law_made [eVar 4])) (sSeq (sDrop (eMeth isL oAppend (eVar 4) (eC (.int 1)))) (sSeq (sIf (cVal (eOp2 oNe (eLc (iSeq (eVar 5)) (.nm 6) [6] (cVal (eOp2 oNe (eOp1 (oVal nC) (eVar 6)) (eOpN mkLst [eVar 2, eC (.int 1)]))) (eVar 6)) (eOpN mkLst []))) (sRet (eC (.bl false))) (sNx)) (sSeq (sFor (iEnu (eOpN mkLst [eMkN 14, eMkN 15])) (.tp [7, 6]) (sSeq (sIf (cOr (cNot (cVal (eOpN (oIsX nC anc) [eVar 6, eC (.glo 0)]))) (cNot (cVal (eOpN (oIsX nC anc) [eVar 6, eC (.ty .verr)])))) (sRet (eC (.bl false))) (sNx)) (sIf (cVal (eOp2 oNe (eCall f__law_kinds [eVar 6]) (eLc (iRng1 (eC (.int 15))) (.nm 8) [8] (cYes) (eOp2 oEq (eVar 8) (eOp2 oAdd (eC (.int 13)) (eVar 7)))))) (sRet (eC (.bl false))) (sNx)))) (sRet (eC (.bl true)))))))))))
def f_law (genM : Fn) (ranM : Fn) : Fn := callM 9 1 (m_law genM ranM)
theorem Facts.f_law (T : Facts G P K mg f fd) {genM : Fn} {ranM : Fn} (hgen : FnG G P w K mg 2 (f 1) (fd 1) ["_law_script", "_law_index"] genM) (hran : FnG G P w K mg 2 (f 3) (fd 3) ["_law_generator_here", "_law_bound"] ranM) : FnG G P w K mg 3 (f 9) (fd 9) ["_law_script"] (f_law genM ranM) := fn_okN (k := 2) (b := m_law genM ranM) 9 1 T.d_law.F sc_law (fun base cdv A outer s H E hgd hr =>
  pms_cons (pms_set (i := 1) sc_law.nd (pm_call (hgen.mono (by decide)) hgd hr (by rfl) T.d__law_generator.m T.d__law_generator.F.kp T.b__law_generator (L2.takes_of rfl rfl rfl rfl) (pma_cons (pm_var (i := 0)) (pma_cons (pm_int) (pma_nil)))))
  (pms_cons (pms_set (i := 2) sc_law.nd (pm_call (hran.mono (by decide)) hgd hr (by rfl) T.d__law_random.m T.d__law_random.F.kp T.b__law_random (L2.takes_of rfl rfl rfl rfl) (pma_cons (pm_var (i := 1)) (pma_cons (pm_op2 or_pow (pm_int) (pm_int)) (pma_nil)))))
  (pms_cons (pms_for (t := .nm 3) (L2.passes_of rfl) rfl (pmi_seq (pm_lst (pma_cons (pm_non) (pma_cons (pm_var (i := 2)) (pma_cons (pm_op2 or_mulS (pm_str [97, 98] (by first | rfl | decide +kernel)) (pm_call (hran.mono (by decide)) hgd hr (by rfl) T.d__law_random.m T.d__law_random.F.kp T.b__law_random (L2.takes_of rfl rfl rfl rfl) (pma_cons (pm_var (i := 1)) (pma_cons (pm_int) (pma_nil))))) (pma_cons (pm_tup (pma_cons (pm_str [120] (by first | rfl | decide +kernel)) (pma_cons (pm_lst (pma_cons (pm_var (i := 2)) (pma_nil))) (pma_nil)))) (pma_cons (pm_dict1 (k := .inr [97]) (L2.pe_str) (pm_int)) (pma_cons (pm_bl) (pma_nil))))))))) (pmg_nm (i := 3) sc_law.nd) (pms_one (pms_if ((pmw_or (pmt_not (pmt_val (pm_call (T.f__law_row_right.mono (by decide)) hgd hr (by rfl) T.d__law_row_right.m T.d__law_row_right.F.kp T.b__law_row_right (L2.takes_of rfl rfl rfl rfl) (pma_cons (pm_call (T.f__law_made.mono (by decide)) hgd hr (by rfl) T.d__law_made.m T.d__law_made.F.kp T.b__law_made (L2.takes_of rfl rfl rfl rfl) (pma_cons (pm_var (i := 3)) (pma_nil))) (pma_cons (pm_var (i := 3)) (pma_nil)))))) (pmw_or1 (pmt_not (pmt_val (pm_call (T.f__law_row_right.mono (by decide)) hgd hr (by rfl) T.d__law_row_right.m T.d__law_row_right.F.kp T.b__law_row_right (L2.takes_of rfl rfl rfl rfl) (pma_cons (pm_call (T.f__law_by_name.mono (by decide)) hgd hr (by rfl) T.d__law_by_name.m T.d__law_by_name.F.kp T.b__law_by_name (L2.takes_of rfl rfl rfl rfl) (pma_cons (pm_var (i := 3)) (pma_nil))) (pma_cons (pm_var (i := 3)) (pma_nil)))))))).pt) (pms_one (pms_ret (pm_bl))) (pms_nil))))
  (pms_cons (pms_if (pmt_not (pmt_val (pm_call (T.f__law_row_right.mono (by decide)) hgd hr (by rfl) T.d__law_row_right.m T.d__law_row_right.F.kp T.b__law_row_right (L2.takes_of rfl rfl rfl rfl) (pma_cons (pm_call0 (T.f__law_empty.mono (by decide)) hgd hr (by rfl) T.d__law_empty.m T.d__law_empty.F.kp T.b__law_empty (L2.takes_of rfl rfl rfl rfl)) (pma_cons (pm_non) (pma_nil)))))) (pms_one (pms_ret (pm_bl))) (pms_nil))
  (pms_cons (pms_set (i := 4) sc_law.nd (pm_lst (pma_cons (pm_var (i := 2)) (pma_nil))))
  (pms_cons (pms_set (i := 5) sc_law.nd (pm_call (T.f__law_made.mono (by decide)) hgd hr (by rfl) T.d__law_made.m T.d__law_made.F.kp T.b__law_made (L2.takes_of rfl rfl rfl rfl) (pma_cons (pm_var (i := 4)) (pma_nil))))
  (pms_cons (pms_expr (pm_append (pm_var (i := 4)) (pm_int)))
  (pms_cons (pms_if (pmt_cmp (or_ne hr) (pm_lc (t := .nm 6) [("_law_error", 6)] rfl sc_law.nd (pmi_seq (pm_var (i := 5))) (L2.blkOk_by (by kernel_rfl)) (fun _ _ _ _ _ => pmg_nm (i := 6) sc_law.nd) (fun _ _ _ _ _ => pmts_one (pmt_cmp (or_ne hr) (pm_val T.anc T.no (pm_var (i := 6))) (pm_lst (pma_cons (pm_var (i := 2)) (pma_cons (pm_int) (pma_nil)))))) (fun _ _ _ _ _ => pm_var (i := 6))) (pm_lst (pma_nil))) (pms_one (pms_ret (pm_bl))) (pms_nil))
  (pms_cons (pms_for (t := .tp [7, 6]) (L2.passes_of rfl) rfl (pmi_enu (by rfl) T.z_enumerate (pm_lst (pma_cons (pm_mkN (c := 14) T.x_NothingToUndo (T.cls 14 (by decide)).kp (by rfl) T.c_NothingToUndo) (pma_cons (pm_mkN (c := 15) T.x_NothingToRedo (T.cls 15 (by decide)).kp (by rfl) T.c_NothingToRedo) (pma_nil))))) (pmg_tp rfl (pmgs_cons (i := 7) sc_law.nd (pmgs_cons (i := 6) sc_law.nd (pmgs_nil)))) (pms_cons (pms_if ((pmw_or (pmt_not (pmt_val (pm_callB (cr_isX T.anc T.hK) (by rfl) T.z_isinstance bt_isi (pma_cons (pm_var (i := 6)) (pma_cons (pm_glob (g := 0) (by rfl) T.c_TieError) (pma_nil)))))) (pmw_or1 (pmt_not (pmt_val (pm_callB (cr_isX T.anc T.hK) (by rfl) T.z_isinstance bt_isi (pma_cons (pm_var (i := 6)) (pma_cons (pm_ty (n := .verr) (by rfl) T.z_ValueError bt_verr) (pma_nil)))))))).pt) (pms_one (pms_ret (pm_bl))) (pms_nil))
  (pms_one (pms_if (pmt_cmp (or_ne hr) (pm_call (T.f__law_kinds.mono (by decide)) hgd hr (by rfl) T.d__law_kinds.m T.d__law_kinds.F.kp T.b__law_kinds (L2.takes_of rfl rfl rfl rfl) (pma_cons (pm_var (i := 6)) (pma_nil))) (pm_lc (t := .nm 8) [("_law_place", 8)] rfl sc_law.nd (pmi_rng1 (by rfl) T.z_range (pm_int)) (L2.blkOk_by (by kernel_rfl)) (fun _ _ _ _ _ => pmg_nm (i := 8) sc_law.nd) (fun _ _ _ _ _ => pmts_nil) (fun _ _ _ _ _ => pm_cmp (or_eq hr) (pm_var (i := 8)) (pm_op2 or_add (pm_int) (pm_var (i := 7)))))) (pms_one (pms_ret (pm_bl))) (pms_nil)))))
  (pms_one (pms_ret (pm_bl)))))))))))) rfl
end
/-! ### the drawing of numbers -/
def hashI (b i : Int) : Int := ((((b * 1140671 + 27644437 * i * i + 131 * i + 19) % 2147483629) * ((b * 1140671 + 27644437 * i * i + 131 * i + 19) % 2147483629) + 62089 * i + 32416187) % 2147483587 * 48271) % 2147483647
theorem bo {i j : Int} (hi : i.natAbs < 2 ^ 1000) (hj : j.natAbs < 2 ^ 1000) : bitsOk i j = true := by
  have lg : ∀ {n : Nat}, n < 2 ^ 1000 → n.log2 < 1000 := fun {n} h => by
    by_cases z : n = 0
    · rw [z]; decide +kernel
    · exact (Nat.log2_lt z).mpr h
  have h1 := lg hi
  have h2 := lg hj
  unfold bitsOk
  exact Nat.ble_eq_true_of_le (by omega)
theorem sm {i : Int} (h : i.natAbs < 2 ^ 200) : i.natAbs < 2 ^ 1000 := Nat.lt_trans h (Nat.pow_lt_pow_right (by decide) (by decide))
theorem p200 : (2 : Nat) ^ 200 = 1606938044258990275541962092341162602522202993782792835301376 := by decide +kernel
theorem sq_lt {i : Int} {n : Int} (h0 : 0 ≤ i) (h1 : i ≤ n) : 0 ≤ i * i ∧ i * i ≤ n * n := ⟨Int.mul_nonneg h0 h0, Int.mul_le_mul h1 h1 h0 (Int.le_trans h0 h1)⟩
theorem mul1 {i j : Int} {h : AH} (z : bitsOk i j = true) : oMulS (.int i) (.int j) h = some (.int (i * j), h) := by
  show oMul (.int i) (.int j) h = _
  unfold oMul
  dsimp only
  rw [z]
theorem hash_ev {b c : Int} (h : AH) (b0 : 0 ≤ b) (b1 : b < 2147483647) (c0 : 0 ≤ c) (c1 : c < 1000000) : f__law_hash [.int b, .int c] h = .ok (.int (hashI b c)) h := by
  have m1 : bitsOk b 1140671 = true := bo (sm (by rw [p200]; omega)) (sm (by rw [p200]; decide))
  have m2 : bitsOk 27644437 c = true := bo (sm (by rw [p200]; decide)) (sm (by rw [p200]; omega))
  have m3 : bitsOk (27644437 * c) c = true := bo (sm (by rw [p200]; omega)) (sm (by rw [p200]; omega))
  have m4 : bitsOk 131 c = true := bo (sm (by rw [p200]; decide)) (sm (by rw [p200]; omega))
  have m5 : bitsOk 62089 c = true := bo (sm (by rw [p200]; decide)) (sm (by rw [p200]; omega))
  have q1 := Int.emod_nonneg (b * 1140671 + 27644437 * c * c + 131 * c + 19) (show (2147483629 : Int) ≠ 0 by decide)
  have q2 := Int.emod_lt_of_pos (b * 1140671 + 27644437 * c * c + 131 * c + 19) (show (0 : Int) < 2147483629 by decide)
  have m6 : bitsOk ((b * 1140671 + 27644437 * c * c + 131 * c + 19) % 2147483629) ((b * 1140671 + 27644437 * c * c + 131 * c + 19) % 2147483629) = true := by
    generalize (b * 1140671 + 27644437 * c * c + 131 * c + 19) % 2147483629 = z at q1 q2
    exact bo (sm (by rw [p200]; omega)) (sm (by rw [p200]; omega))
  generalize hz : (b * 1140671 + 27644437 * c * c + 131 * c + 19) % 2147483629 = z at *
  have q3 := Int.emod_nonneg (z * z + 62089 * c + 32416187) (show (2147483587 : Int) ≠ 0 by decide)
  have q4 := Int.emod_lt_of_pos (z * z + 62089 * c + 32416187) (show (0 : Int) < 2147483587 by decide)
  have m7 : bitsOk ((z * z + 62089 * c + 32416187) % 2147483587) 48271 = true := by
    generalize (z * z + 62089 * c + 32416187) % 2147483587 = y at q3 q4
    exact bo (sm (by rw [p200]; omega)) (sm (by rw [p200]; decide))
  refine v_fn rfl (v_seq (v_set (v_op2 (v_opN (v_cons (v_op2 (v_op2 (v_op2 (v_op2 (v_var rfl) v_c (mul1 m1)) (v_op2 (v_op2 v_c (v_var rfl) (mul1 m2)) (v_var rfl) (mul1 m3)) rfl) (v_op2 v_c (v_var rfl) (mul1 m4)) rfl) v_c rfl) v_nil) rfl) v_c rfl) rfl) ?_)
  rw [hz]
  refine v_seq (v_set (v_op2 (v_opN (v_cons (v_op2 (v_op2 (v_op2 (v_var rfl) (v_var rfl) (mul1 m6)) (v_op2 v_c (v_var rfl) (mul1 m5)) rfl) v_c rfl) v_nil) rfl) v_c rfl) rfl) ?_
  refine v_ret ?_
  have e := v_op2 (σ := [some (W.int b), some (W.int c), some (W.int ((z * z + 62089 * c + 32416187) % 2147483587))]) (h := h) (v_opN (k := oInt) (v_cons (v_op2 (v_var (i := 2) rfl) v_c (mul1 m7)) v_nil) rfl) (v_c (x := .int 2147483647)) (f := oMod) rfl
  unfold hashI
  rw [hz]
  exact e
theorem hash_lt (b c : Int) : 0 ≤ hashI b c ∧ hashI b c < 2147483647 := ⟨Int.emod_nonneg _ (by decide), Int.emod_lt_of_pos _ (by decide)⟩
def rndB : SM := sSeq (sSub oSetIx (eOp2 oAdd (eOp2 oIx (eVar 0) (eC (.int 2))) (eC (.int 1))) (eVar 0) (eC (.int 2))) (sSet 2 (eOp2 oAdd (eOp2 oMulS (eVar 2) (eC (.int 2147483587))) (eCall f__law_hash [eOp2 oIx (eVar 0) (eC (.int 1)), eOp2 oIx (eVar 0) (eC (.int 2))])))
theorem rndB_ev {l : Nat} {B d a b c : Int} {x3 : Option W} {h : AH} (hg : h.get l = some (.lst [.int a, .int b, .int c])) (b0 : 0 ≤ b) (b1 : b < 2147483647) (c0 : 0 ≤ c) (c1 : c + 1 < 1000000) (hd : d.natAbs < 2 ^ 1000) :
    rndB [some (.ref l), some (.int B), some (.int d), x3] h = .nx [some (.ref l), some (.int B), some (.int (d * 2147483587 + hashI b (c + 1))), x3] (h.put l (.lst [.int a, .int b, .int (c + 1)])) := by
  have hg2 : (h.put l (.lst [.int a, .int b, .int (c + 1)])).get l = some (.lst [.int a, .int b, .int (c + 1)]) := by rw [AH.get_put, if_pos rfl]
  have md : bitsOk d 2147483587 = true := bo hd (sm (by rw [p200]; decide))
  refine v_seq (v_sub (v_op2 (v_op2 (v_var rfl) v_c (v_ix (j := 2) hg rfl rfl)) v_c rfl) (v_var rfl) v_c (v_six (j := 2) hg rfl)) ?_
  exact v_set (v_op2 (v_op2 (v_var rfl) v_c (mul1 md)) (v_call (v_cons (v_op2 (v_var rfl) v_c (v_ix (j := 1) hg2 rfl rfl)) (v_cons (v_op2 (v_var rfl) v_c (v_ix (j := 2) hg2 rfl rfl)) v_nil)) (hash_ev _ b0 b1 (by omega) c1)) rfl) rfl
def dL (b : Int) : Nat → Int → Int → Int
  | 0, d, _ => d
  | n + 1, d, c => dL b n (d * 2147483587 + hashI b (c + 1)) (c + 1)
def hL (l : Nat) (a b : Int) : Nat → Int → AH → AH
  | 0, _, h => h
  | n + 1, c, h => hL l a b n (c + 1) (h.put l (.lst [.int a, .int b, .int (c + 1)]))
/-- the same heap but for the cell at l -/
structure But (l : Nat) (c : Cell) (h h' : AH) : Prop where
  n : h'.n = h.n
  k : h'.k = h.k
  s : h'.s = h.s
  g : ∀ j, h'.get j = if j = l then some c else h.get j
theorem hL_but {l : Nat} {a b : Int} : ∀ (n : Nat) (c : Int) (h : AH), h.get l = some (.lst [.int a, .int b, .int c]) → But l (.lst [.int a, .int b, .int (c + n)]) h (hL l a b n c h)
  | 0, c, h, hg => ⟨rfl, rfl, rfl, fun j => by
    by_cases e : j = l
    · rw [if_pos e, e]
      show h.get l = _
      rw [hg, Int.natCast_zero, Int.add_zero]
    · rw [if_neg e]
      rfl⟩
  | n + 1, c, h, hg => by
    have ih := hL_but (l := l) (a := a) (b := b) n (c + 1) (h.put l (.lst [.int a, .int b, .int (c + 1)])) (by rw [AH.get_put, if_pos rfl])
    refine ⟨ih.n, ih.k, ih.s, fun j => ?_⟩
    show (hL l a b n (c + 1) (h.put l (.lst [.int a, .int b, .int (c + 1)]))).get j = _
    rw [ih.g j, show c + 1 + (n : Int) = c + ((n + 1 : Nat) : Int) by omega]
    by_cases e : j = l
    · rw [if_pos e, if_pos e]
    · rw [if_neg e, if_neg e, AH.get_put, if_neg e]
def bd (i : Nat) : Int := 2 ^ (32 * i + 32)
theorem bd_succ (i : Nat) : bd (i + 1) = bd i * 4294967296 := by
  unfold bd
  rw [show 32 * (i + 1) + 32 = (32 * i + 32) + 32 by omega, Int.pow_add]
  rfl
theorem bd_small {i : Nat} {d : Int} (hi : i ≤ 20) (d0 : 0 ≤ d) (d1 : d < bd i) : d.natAbs < 2 ^ 1000 := by
  have h1 : (d.natAbs : Int) < ((2 ^ (32 * i + 32) : Nat) : Int) := by
    rw [Int.natAbs_of_nonneg d0, Int.natCast_pow]
    exact d1
  have h2 : d.natAbs < 2 ^ (32 * i + 32) := Int.ofNat_lt.mp h1
  exact Nat.lt_of_lt_of_le h2 (Nat.pow_le_pow_right (by decide) (by omega))
theorem bd_step {i : Nat} {d x : Int} (d0 : 0 ≤ d) (d1 : d < bd i) (x1 : x < 2147483647) : d * 2147483587 + x < bd (i + 1) := by
  rw [bd_succ]
  generalize bd i = P at d1
  omega
theorem forL1 {J : MIt} {t : Tg} {b : SM} {f i : Nat} {σ σ1 σ2 : Sl} {h h1 h2 : AH} {x : W} (e1 : J.next i h = .yld x h1) (e2 : t.put x σ h1 = some σ1) (e3 : b σ1 h1 = .nx σ2 h2) : forLoop J t b (f + 1) i σ h = forLoop J t b f (i + 1) σ2 h2 := by
  conv => lhs; unfold forLoop
  rw [e1]; dsimp only; rw [e2]; dsimp only; rw [e3]
theorem forL0 {J : MIt} {t : Tg} {b : SM} {f i : Nat} {σ : Sl} {h : AH} (e1 : J.next i h = .stop) : forLoop J t b (f + 1) i σ h = .nx σ h := by
  conv => lhs; unfold forLoop
  rw [e1]
theorem rng1 {N i : Nat} {h : AH} (z : i < N) : MIt.next (.rng 0 N) i h = .yld (.int (0 + i)) h := by
  unfold MIt.next; dsimp only; rw [show Nat.blt i N = true from Nat.ble_eq_true_of_le z]
theorem rng0 {N i : Nat} {h : AH} (z : ¬ i < N) : MIt.next (.rng 0 N) i h = .stop := by
  unfold MIt.next; dsimp only; rw [show Nat.blt i N = false by rw [← Bool.not_eq_true]; intro y; exact z (Nat.le_of_ble_eq_true y)]
theorem loop_ev {l : Nat} {B a b : Int} {N : Nat} (b0 : 0 ≤ b) (b1 : b < 2147483647) (hN : N ≤ 20) (n : Nat) : ∀ (i fuel : Nat) (d c : Int) (h : AH) (x3 : Option W), i + n = N → n < fuel → 0 ≤ d → d < bd i → 0 ≤ c → c + n < 1000000 → h.get l = some (.lst [.int a, .int b, .int c]) →
    ∃ x, forLoop (.rng 0 N) (.nm 3) rndB fuel i [some (.ref l), some (.int B), some (.int d), x3] h = .nx [some (.ref l), some (.int B), some (.int (dL b n d c)), x] (hL l a b n c h) := by
  induction n with
  | zero =>
    intro i fuel d c h x3 e1 e2 _ _ _ _ _
    obtain ⟨f, rfl⟩ : ∃ f, fuel = f + 1 := ⟨fuel - 1, by omega⟩
    exact ⟨x3, forL0 (rng0 (by omega))⟩
  | succ n ih =>
    intro i fuel d c h x3 e1 e2 d0 d1 c0 c1 hg
    obtain ⟨f, rfl⟩ : ∃ f, fuel = f + 1 := ⟨fuel - 1, by omega⟩
    have ht := hash_lt b (c + 1)
    obtain ⟨x, z⟩ := ih (i + 1) f (d * 2147483587 + hashI b (c + 1)) (c + 1) (h.put l (.lst [.int a, .int b, .int (c + 1)])) (some (.int (0 + i))) (by omega) (by omega) (by omega) (bd_step d0 d1 ht.2) (by omega) (by omega) (by rw [AH.get_put, if_pos rfl])
    refine ⟨x, ?_⟩
    rw [forL1 (rng1 (by omega)) rfl (rndB_ev hg b0 b1 c0 (by omega) (bd_small (by omega) d0 d1))]
    exact z
/-- what a draw gives -/
def rndR (N : Nat) (a b c B : Int) : Int := if 0 < a then a % B else dL b N 0 c % B
def rndA (a B : Int) : Int := if 0 < a then a / B else a
def rndC (N : Nat) (a c : Int) : Int := if 0 < a then c else c + N
theorem rnd_ev {l : Nat} {a b c B : Int} {N : Nat} {h : AH} (hN : N ≤ 20) (hR : ∀ σ1 : Sl, sget σ1 1 = some (.int B) → iRng1 (eOp2 oAdd (eC (.int 1)) (eOp2 oFdiv (eOp1 oBits (eVar 1)) (eC (.int 30)))) σ1 h = .ok (.rng 0 N) h) (hB : 0 < B) (hB2 : Nat.blt B.natAbs.log2 9000 = true) (b0 : 0 ≤ b) (b1 : b < 2147483647) (c0 : 0 ≤ c) (c1 : c + 20 < 1000000)
    (hg : h.get l = some (.lst [.int a, .int b, .int c])) : ∃ h', f__law_random [.ref l, .int B] h = .ok (.int (rndR N a b c B)) h' ∧ But l (.lst [.int (rndA a B), .int b, .int (rndC N a c)]) h h' := by
  have hb : ilt 0 B = true := by rw [ilt_iff]; exact decide_eq_true hB
  have em : ∀ (i : Int) (h : AH), oMod (.int i) (.int B) h = some (.int (i % B), h) := fun i h => by
    unfold oMod; dsimp only; rw [hb]
  have ed : oFdiv (.int a) (.int B) h = some (.int (a / B), h) := by
    unfold oFdiv; dsimp only; rw [hb, hB2]; rfl
  have eg : oGt (.int a) (.int 0) h = some (.bl (ilt 0 a), h) := rfl
  by_cases ha : 0 < a
  · have ia : ilt 0 a = true := by rw [ilt_iff]; exact decide_eq_true ha
    rw [ia] at eg
    unfold rndR rndA rndC
    rw [if_pos ha, if_pos ha, if_pos ha]
    refine ⟨h.put l (.lst [.int (a / B), .int b, .int c]), ?_, rfl, rfl, rfl, fun j => AH.get_put _ _ _ _⟩
    refine v_fn rfl (v_seqR (v_if1 (v_val (v_op2 (v_op2 (v_var rfl) v_c (v_ix (j := 0) hg rfl rfl)) v_c eg)) (v_seq (v_set (v_op2 (v_opN (v_cons (v_op2 (v_var rfl) v_c (v_ix (j := 0) hg rfl rfl)) v_nil) rfl) (v_var rfl) (em _ _)) rfl) (v_seq (v_sub (v_op2 (v_op2 (v_var rfl) v_c (v_ix (j := 0) hg rfl rfl)) (v_var rfl) ed) (v_var rfl) v_c (v_six (j := 0) hg rfl)) (v_ret (v_var rfl))))))
  · have ia : ilt 0 a = false := by rw [ilt_iff]; exact decide_eq_false ha
    rw [ia] at eg
    unfold rndR rndA rndC
    rw [if_neg ha, if_neg ha, if_neg ha]
    obtain ⟨x, hl⟩ := loop_ev (l := l) (B := B) (a := a) (N := N) b0 b1 hN N 0 1000001 0 c h none (by omega) (by omega) (by omega) (by unfold bd; decide) c0 (by omega) hg
    refine ⟨hL l a b N c h, ?_, hL_but N c h hg⟩
    refine v_fn rfl (v_seq (v_if0 (v_val (v_op2 (v_op2 (v_var rfl) v_c (v_ix (j := 0) hg rfl rfl)) v_c eg)) rfl) (v_seq (v_set v_c rfl) (v_seq (σ1 := [some (.ref l), some (.int B), some (.int (dL b N 0 c)), x]) (h1 := hL l a b N c h) ?_ (v_ret (v_op2 (v_opN (v_cons (v_var rfl) v_nil) rfl) (v_var rfl) (em _ _))))))
    show sFor (iRng1 _) (.nm 3) rndB _ _ = _
    unfold sFor
    rw [hR _ rfl]
    exact hl
def seedOf : List Int → Int
  | [] => 0
  | x :: _ => x
def genA (x : Int) : Int := (match ilt (x - 10 ^ 18) 0 with | true => 0 | false => x - 10 ^ 18) % ((10 ^ 60) ^ 10)
def genB (x : Int) : Int := x % 2147483647
def preH (ns : List Int) (h : AH) : AH := match ns with
  | [] => h.new (.lst [])
  | _ :: _ => h
theorem cell_ev {h : AH} : f__law_cell [.scr, .int 0] h = .ok (.int (seedOf h.s)) (preH h.s h) := by
  obtain ⟨n, k, s, t⟩ := h
  cases s with
  | cons x r =>
    refine v_fn rfl (v_seqR (v_if1 (v_val (v_op2 (v_var rfl) (v_opN (v_cons (v_var rfl) v_nil) rfl) rfl)) (v_ret (v_op2 (v_var rfl) (v_var rfl) rfl))))
  | nil =>
    have hg : (AH.new ⟨n, k, [], t⟩ (.lst [])).get n = some (.lst []) := by rw [AH.get_new, if_pos rfl]
    have hc : eCut (eVar 0) oNone (oSome (eC (.int 1))) [some .scr, some (.int 0)] ⟨n, k, [], t⟩ = .ok (.ref n) (AH.new ⟨n, k, [], t⟩ (.lst [])) := rfl
    have hs : oInts (fun is h => some (.int (isum is), h)) [.ref n] (AH.new ⟨n, k, [], t⟩ (.lst [])) = some (.int 0, AH.new ⟨n, k, [], t⟩ (.lst [])) := by
      unfold oInts lst?
      dsimp only
      rw [hg]
      rfl
    exact v_fn rfl (v_seq (v_if0 (v_val (v_op2 (v_var rfl) (v_opN (v_cons (v_var rfl) v_nil) rfl) rfl)) rfl) (v_ret (v_op2 (v_opN (v_cons hc v_nil) hs) v_c rfl)))
theorem gen_ev {h : AH} : f__law_generator [.scr, .int 0] h = .ok (.ref (preH h.s h).n) ((preH h.s h).new (.lst [.int (genA (seedOf h.s)), .int (genB (seedOf h.s)), .int 0])) := by
  have ht : ∀ h : AH, eOp2 oPow (eOp2 oPow (eC (.int 10)) (eC (.int 60))) (eC (.int 10)) [some .scr, some (.int 0), some (.int (seedOf h.s))] h = .ok (.int ((10 ^ 60) ^ 10)) h := fun h => by kernel_rfl
  have h18 : ∀ h : AH, eOp2 oPow (eC (.int 10)) (eC (.int 18)) [some .scr, some (.int 0), some (.int (seedOf h.s))] h = .ok (.int (10 ^ 18)) h := fun h => by kernel_rfl
  have hm : ∀ (i : Int) (h : AH), oMod (.int i) (.int ((10 ^ 60) ^ 10)) h = some (.int (i % ((10 ^ 60) ^ 10)), h) := fun i h => by kernel_rfl
  have h18' : ∀ (σ : Sl) (h : AH), eOp2 oPow (eC (.int 10)) (eC (.int 18)) σ h = .ok (.int (10 ^ 18)) h := fun σ h => by kernel_rfl
  have ht' : ∀ (σ : Sl) (h : AH), eOp2 oPow (eOp2 oPow (eC (.int 10)) (eC (.int 60))) (eC (.int 10)) σ h = .ok (.int ((10 ^ 60) ^ 10)) h := fun σ h => by kernel_rfl
  have a1 : eOp2 oMod (eOpN oInt [eOpN oMax2 [eOp2 oSub (eVar 2) (eOp2 oPow (eC (.int 10)) (eC (.int 18))), eC (.int 0)]]) (eOp2 oPow (eOp2 oPow (eC (.int 10)) (eC (.int 60))) (eC (.int 10))) [some .scr, some (.int 0), some (.int (seedOf h.s))] (preH h.s h) = .ok (.int (genA (seedOf h.s))) (preH h.s h) :=
    v_op2 (v_opN (v_cons (v_opN (v_cons (v_op2 (v_var rfl) (h18' _ _) rfl) (v_cons v_c v_nil)) rfl) v_nil) rfl) (ht' _ _) (hm _ _)
  have a2 : eOp2 oMod (eOpN oInt [eVar 2]) (eC (.int 2147483647)) [some .scr, some (.int 0), some (.int (seedOf h.s))] (preH h.s h) = .ok (.int (genB (seedOf h.s))) (preH h.s h) := v_op2 (v_opN (v_cons (v_var rfl) v_nil) rfl) v_c rfl
  have a3 : eOp2 oMulS (eC (.int 1000)) (eVar 1) [some .scr, some (.int 0), some (.int (seedOf h.s))] (preH h.s h) = .ok (.int 0) (preH h.s h) := v_op2 v_c (v_var rfl) (by kernel_rfl)
  exact v_fn rfl (v_seq (v_set (v_call (v_cons (v_var rfl) (v_cons (v_var rfl) v_nil)) cell_ev) rfl) (v_ret (v_opN (v_cons a1 (v_cons a2 (v_cons a3 v_nil))) rfl)))
/-! ### the tape -/
/-- the generator's state ahead of the j-th draw -/
def stp (Bs : List Int) (Ns : List Nat) (a0 : Int) : Nat → Int × Int
  | 0 => (a0, 0)
  | j + 1 => (rndA (stp Bs Ns a0 j).1 (Bs.getD j 0), rndC (Ns.getD j 0) (stp Bs Ns a0 j).1 (stp Bs Ns a0 j).2)
def rwOf (Bs : List Int) (Ns : List Nat) (a0 b : Int) (i : Nat) : Int := if i % 3 = 0 then (stp Bs Ns a0 (i / 3)).1 else if i % 3 = 1 then b else (stp Bs Ns a0 (i / 3)).2
def rOf (Bs : List Int) (Ns : List Nat) (a0 b : Int) (j : Nat) : Int := rndR (Ns.getD j 0) (stp Bs Ns a0 j).1 b (stp Bs Ns a0 j).2 (Bs.getD j 0)
theorem stp_c (Bs : List Int) (Ns : List Nat) (a0 : Int) (hN : ∀ j, Ns.getD j 0 ≤ 20) : ∀ j : Nat, 0 ≤ (stp Bs Ns a0 j).2 ∧ (stp Bs Ns a0 j).2 ≤ 20 * j
  | 0 => ⟨Int.le_refl _, Int.le_refl _⟩
  | j + 1 => by
    obtain ⟨h1, h2⟩ := stp_c Bs Ns a0 hN j
    have h3 := hN j
    show 0 ≤ rndC _ _ _ ∧ rndC _ _ _ ≤ _
    unfold rndC
    split <;> omega
/-- the width of a draw's loop -/
def Wd (B : Int) (N : Nat) : Prop := N ≤ 20 ∧ 0 < B ∧ Nat.blt B.natAbs.log2 9000 = true ∧ 1 + blen B / 30 = (N : Int)
theorem wd_rng {B : Int} {N : Nat} (w : Wd B N) (h : AH) (σ1 : Sl) (e : sget σ1 1 = some (.int B)) : iRng1 (eOp2 oAdd (eC (.int 1)) (eOp2 oFdiv (eOp1 oBits (eVar 1)) (eC (.int 30)))) σ1 h = .ok (.rng 0 N) h := by
  obtain ⟨w1, w2, w3, w4⟩ := w
  have e2 : eOp2 oAdd (eC (.int 1)) (eOp2 oFdiv (eOp1 oBits (eVar 1)) (eC (.int 30))) σ1 h = .ok (.int (1 + blen B / 30)) h := v_op2 v_c (v_op2 (v_op1 (v_var e) rfl) v_c rfl) rfl
  unfold iRng1
  rw [e2, w4]
  show (match smallI (N : Int) with | true => Res.ok (MIt.rng 0 (N : Int).toNat) h | false => .no) = _
  rw [show smallI (N : Int) = true by
    unfold smallI
    rw [ilt_iff, ilt_iff]
    simp only [Bool.and_eq_true, decide_eq_true_eq]
    omega, Int.toNat_natCast]
theorem rw0 {Bs : List Int} {Ns : List Nat} {a0 b : Int} {i : Nat} (e : i % 3 = 0) : rwOf Bs Ns a0 b i = (stp Bs Ns a0 (i / 3)).1 ∧ rwOf Bs Ns a0 b (i + 1) = b ∧ rwOf Bs Ns a0 b (i + 2) = (stp Bs Ns a0 (i / 3)).2 ∧ rwOf Bs Ns a0 b (i + 3) = (stp Bs Ns a0 (i / 3 + 1)).1 ∧ rwOf Bs Ns a0 b (i + 4) = b ∧ rwOf Bs Ns a0 b (i + 5) = (stp Bs Ns a0 (i / 3 + 1)).2 := by
  unfold rwOf
  refine ⟨by rw [if_pos e], by rw [if_neg (by omega), if_pos (by omega)], ?_, ?_, by rw [if_neg (by omega), if_pos (by omega)], ?_⟩
  · rw [if_neg (by omega), if_neg (by omega), show (i + 2) / 3 = i / 3 by omega]
  · rw [if_pos (by omega), show (i + 3) / 3 = i / 3 + 1 by omega]
  · rw [if_neg (by omega), if_neg (by omega), show (i + 5) / 3 = i / 3 + 1 by omega]
section
variable {G : Gx} {P : Program} {w : World} {K : PySem.W.Frag} {mg : Str → Option Value} {k : Nat} {f : Addr} {fd : FuncData}
theorem rnd_tape {Bs : List Int} {Ns : List Nat} {ts : List W} {a0 b : Int} (F : FnG G P w K mg k f fd ["_law_generator_here", "_law_bound"] f__law_random) (hrw : G.rw = rwOf Bs Ns a0 b) (b0 : 0 ≤ b) (b1 : b < 2147483647) (hN : ∀ j, Ns.getD j 0 ≤ 20)
    (hts : ∀ j t, nth ts j = some t → j < 1000 ∧ Wd (Bs.getD j 0) (Ns.getD j 0) ∧ ∀ m v, v = L2.V.int (rOf Bs Ns a0 b j) → VR G m t v) : FnG G P w K mg k f fd ["_law_generator_here", "_law_bound"] (rndT Bs ts) := by
  refine F.tape (fun ws h z => ?_) fun {m h H ws vs Q E} R rv q => ?_
  · unfold rndT at z
    split at z
    · rfl
    · exact absurd rfl z
  · unfold rndT at q
    split at q
    · rename_i l B
      split at q
      · rename_i i i1 i2 hg
        cases et : nth ts (i / 3) with
        | none =>
          rw [et] at q
          exact q.elim
        | some t =>
          rw [et] at q
          dsimp only at q
          cases ec : ieq (Bs.getD (i / 3) 0) B && (Nat.beq (i % 3) 0 && (Nat.beq i1 (i + 1) && Nat.beq i2 (i + 2))) with
          | false =>
            rw [ec] at q
            exact q.elim
          | true =>
            rw [ec] at q
            dsimp only at q
            obtain ⟨z1, z2⟩ := Bool.and_eq_true_iff.mp ec
            obtain ⟨z2, z3⟩ := Bool.and_eq_true_iff.mp z2
            obtain ⟨z3, z4⟩ := Bool.and_eq_true_iff.mp z3
            have z1' : Bs.getD (i / 3) 0 = B := by rw [ieq_iff] at z1; exact of_decide_eq_true z1
            have z2' := Nat.eq_of_beq_eq_true z2
            have z3' := Nat.eq_of_beq_eq_true z3
            have z4' := Nat.eq_of_beq_eq_true z4
            subst z3' z4' z1'
            obtain ⟨j1, wd, hv⟩ := hts _ _ et
            obtain ⟨r0, r1, r2, r3, r4, r5⟩ := rw0 (Bs := Bs) (Ns := Ns) (a0 := a0) (b := b) z2'
            obtain ⟨c0, c1⟩ := stp_c Bs Ns a0 hN (i / 3)
            have hgp : ∀ c, (h.put l c).get l = some c := fun c => by rw [AH.get_put, if_pos rfl]
            refine ⟨h.put l (.lst [.int (stp Bs Ns a0 (i / 3)).1, .int b, .int (stp Bs Ns a0 (i / 3)).2]), R.swap rfl rfl rfl (fun l' c e => ?_), ?_⟩
            · rw [AH.get_put]
              by_cases el : l' = l
              · rw [if_pos el]
                refine ⟨_, rfl, fun a o z => ?_⟩
                rw [el, hg] at e
                cases e
                obtain ⟨us, y1, y2⟩ := z
                refine ⟨us, ?_, y2⟩
                cases y1 with
                | cons x1 y1 =>
                  cases y1 with
                  | cons x2 y1 =>
                    cases y1 with
                    | cons x3 y1 =>
                      cases y1
                      have x1' : _ = L2.V.int (G.rw i) := x1
                      have x2' : _ = L2.V.int (G.rw (i + 1)) := x2
                      have x3' : _ = L2.V.int (G.rw (i + 2)) := x3
                      rw [hrw, r0] at x1'
                      rw [hrw, r1] at x2'
                      rw [hrw, r2] at x3'
                      exact .cons x1' (.cons x2' (.cons x3' .nil))
              · rw [if_neg el]
                exact ⟨c, e, fun _ _ z => z⟩
            · obtain ⟨h', e1, bt⟩ := rnd_ev (a := (stp Bs Ns a0 (i / 3)).1) (c := (stp Bs Ns a0 (i / 3)).2) (N := Ns.getD (i / 3) 0) (hN _) (wd_rng wd _) wd.2.1 wd.2.2.1 b0 b1 c0 (by omega) (hgp _)
              rw [e1]
              intro m' H' b' le R' rb
              refine q m' H' b' le (R'.swap (h' := h.put l (.lst [.raw (i + 3), .raw (i + 4), .raw (i + 5)])) bt.n.symm bt.k.symm bt.s.symm fun l' c e => ?_) (hv m' b' rb)
              rw [bt.g] at e
              rw [AH.get_put]
              by_cases el : l' = l
              · rw [if_pos el] at e ⊢
                cases e
                refine ⟨_, rfl, fun a o z => ?_⟩
                obtain ⟨us, y1, y2⟩ := z
                refine ⟨us, ?_, y2⟩
                cases y1 with
                | cons x1 y1 =>
                  cases y1 with
                  | cons x2 y1 =>
                    cases y1 with
                    | cons x3 y1 =>
                      cases y1
                      refine .cons ?_ (.cons ?_ (.cons ?_ .nil))
                      · show _ = L2.V.int (G.rw (i + 3))
                        rw [hrw, r3]
                        exact x1
                      · show _ = L2.V.int (G.rw (i + 4))
                        rw [hrw, r4]
                        exact x2
                      · show _ = L2.V.int (G.rw (i + 5))
                        rw [hrw, r5]
                        exact x3
              · rw [if_neg el, AH.get_put, if_neg el] at e
                rw [if_neg el]
                exact ⟨c, e, fun _ _ z => z⟩
      · exact q.elim
    · exact q.elim
theorem gen_tape {Bs : List Int} {Ns : List Nat} {fl : Bool} (F : FnG G P w K mg k f fd ["_law_script", "_law_index"] f__law_generator) (hrw : G.rw = rwOf Bs Ns (genA (seedOf G.ns)) (genB (seedOf G.ns))) (hfl : fl = G.ns.isEmpty) : FnG G P w K mg k f fd ["_law_script", "_law_index"] (genT fl) := by
  refine F.tape (fun ws h z => ?_) fun {m h H ws vs Q E} R rv q => ?_
  · unfold genT at z
    split at z
    · rfl
    · exact absurd rfl z
  · unfold genT at q
    split at q
    · refine ⟨h, R, ?_⟩
      have ev := gen_ev (h := h)
      rw [R.sn] at ev
      have ev' : f__law_generator [.scr, .int (.ofNat 0)] h = _ := ev
      rw [ev']
      intro m' H' b' le R' rb
      obtain ⟨r0, r1, r2, _⟩ := rw0 (Bs := Bs) (Ns := Ns) (a0 := genA (seedOf G.ns)) (b := genB (seedOf G.ns)) (i := 0) rfl
      have key : ∀ h0 : AH, Rel G m' (h0.new (.lst [.int (genA (seedOf G.ns)), .int (genB (seedOf G.ns)), .int 0])) H' → Rel G m' (h0.new (.lst [.raw 0, .raw 1, .raw 2])) H' := fun h0 R0 => R0.swap rfl rfl rfl fun l' c e => by
        rw [AH.get_new] at e ⊢
        by_cases el : l' = h0.n
        · rw [if_pos el] at e ⊢
          cases e
          refine ⟨_, rfl, fun a o z => ?_⟩
          obtain ⟨us, y1, y2⟩ := z
          refine ⟨us, ?_, y2⟩
          cases y1 with
          | cons x1 y1 =>
            cases y1 with
            | cons x2 y1 =>
              cases y1 with
              | cons x3 y1 =>
                cases y1
                refine .cons ?_ (.cons ?_ (.cons ?_ .nil))
                · show _ = L2.V.int (G.rw 0)
                  rw [hrw, r0]
                  exact x1
                · show _ = L2.V.int (G.rw 1)
                  rw [hrw, r1]
                  exact x2
                · show _ = L2.V.int (G.rw 2)
                  rw [hrw, r2]
                  exact x3
        · rw [if_neg el] at e ⊢
          exact ⟨c, e, fun _ _ z => z⟩
      cases en : G.ns with
      | nil =>
        rw [hfl, en] at q
        rw [en] at R' rb key
        exact q m' H' b' le (key _ R') rb
      | cons x r =>
        rw [hfl, en] at q
        rw [en] at R' rb key
        exact q m' H' b' le (key _ R') rb
    · exact q.elim
end

open L2 (Room Binds)
def Bs : List Int := [1000000000000000000000000000000, 3]
def Ns : List Nat := [4, 1]
theorem wd0 : Wd 1000000000000000000000000000000 4 := ⟨by decide, by decide, by kernel_rfl, by kernel_rfl⟩
theorem wd1 : Wd 3 1 := ⟨by decide, by decide, by kernel_rfl, by kernel_rfl⟩
theorem ns20 (j : Nat) : Ns.getD j 0 ≤ 20 := by
  match j with
  | 0 => exact (by decide : 4 ≤ 20)
  | 1 => exact (by decide : 1 ≤ 20)
  | _ + 2 => exact Nat.zero_le _
theorem rnd_lt (N : Nat) (a b c : Int) {B : Int} (hB : 0 < B) : 0 ≤ rndR N a b c B ∧ rndR N a b c B < B := by
  unfold rndR
  split
  · exact ⟨Int.emod_nonneg _ (by omega), Int.emod_lt_of_pos _ hB⟩
  · exact ⟨Int.emod_nonneg _ (by omega), Int.emod_lt_of_pos _ hB⟩
def runs (fl : Bool) (t : Int) (ns : List Int) : Prop := chk (f_law (genT fl) (rndT [1000000000000000000000000000000, 3] [.sym 0 1 0, .int t]) [.scr] (AH.nil ns)) = true
theorem run_f0 (ns : List Int) : runs false 0 ns := by show chk _ = true; kernel_rfl
theorem run_f1 (ns : List Int) : runs false 1 ns := by show chk _ = true; kernel_rfl
theorem run_f2 (ns : List Int) : runs false 2 ns := by show chk _ = true; kernel_rfl
theorem run_t0 (ns : List Int) : runs true 0 ns := by show chk _ = true; kernel_rfl
theorem run_t1 (ns : List Int) : runs true 1 ns := by show chk _ = true; kernel_rfl
theorem run_t2 (ns : List Int) : runs true 2 ns := by show chk _ = true; kernel_rfl
theorem run_all (fl : Bool) {t : Int} (h0 : 0 ≤ t) (h1 : t < 3) (ns : List Int) : runs fl t ns := by
  have e : t = 0 ∨ t = 1 ∨ t = 2 := by omega
  rcases e with rfl | rfl | rfl
  · cases fl with
    | false => exact run_f0 ns
    | true => exact run_t0 ns
  · cases fl with
    | false => exact run_f1 ns
    | true => exact run_t1 ns
  · cases fl with
    | false => exact run_f2 ns
    | true => exact run_t2 ns
theorem law_all {P : Program} {K : PySem.W.Frag} {w : World} {mg : Str → Option Value} {f : Nat → Addr} {fd : Nat → FuncData} {cs : List Addr} (T : ∀ G : Gx, G.K = K → G.ga = gaOf cs → Facts G P K mg f fd) (a : Addr) (ns : List Int) :
    ∃ (G : Gx) (fn : Fn), (G.m0 = ⟨[], []⟩ ∧ G.tt = [] ∧ G.sa = a ∧ G.K = K ∧ G.ns = ns) ∧ FnG G P w K mg 3 (f 9) (fd 9) ["_law_script"] fn ∧ ∃ h', fn [.scr] (AH.nil ns) = .ok (.bl true) h' := by
  obtain ⟨r, hr⟩ : ∃ r, r = rOf Bs Ns (genA (seedOf ns)) (genB (seedOf ns)) 0 := ⟨_, rfl⟩
  obtain ⟨t, ht⟩ : ∃ t, t = rOf Bs Ns (genA (seedOf ns)) (genB (seedOf ns)) 1 := ⟨_, rfl⟩
  have r0 : 0 ≤ r ∧ r < 1000000000000000000000000000000 := by rw [hr]; exact rnd_lt _ _ _ _ (by decide)
  have t0 : 0 ≤ t ∧ t < 3 := by rw [ht]; exact rnd_lt _ _ _ _ (by decide)
  let G : Gx := { K := K, sa := a, ga := gaOf cs, ρ := fun _ => r, ρ0 := fun _ => ⟨r0.1, Int.le_of_lt r0.2⟩, rw := rwOf Bs Ns (genA (seedOf ns)) (genB (seedOf ns)), ns := ns, m0 := ⟨[], []⟩, tt := [], lamAt := fun _ _ _ _ => False }
  have TG : Facts G P K mg f fd := T G rfl rfl
  refine ⟨G, f_law (genT ns.isEmpty) (rndT [1000000000000000000000000000000, 3] [.sym 0 1 0, .int t]), ⟨rfl, rfl, rfl, rfl, rfl⟩, ?_, chk_ok (run_all ns.isEmpty t0.1 t0.2 ns)⟩
  have b0 : 0 ≤ genB (seedOf ns) := Int.emod_nonneg _ (by decide)
  have b1 : genB (seedOf ns) < 2147483647 := Int.emod_lt_of_pos _ (by decide)
  refine TG.f_law (gen_tape (Bs := Bs) (Ns := Ns) TG.f__law_generator rfl rfl) (rnd_tape (Bs := Bs) (Ns := Ns) (a0 := genA (seedOf ns)) (b := genB (seedOf ns)) TG.f__law_random rfl b0 b1 ns20 fun j x e => ?_)
  match j with
  | 0 =>
    cases e
    refine ⟨by decide, wd0, fun m v hv => ?_⟩
    show v = L2.V.int (1 * r + 0)
    rw [hv, ← hr]
    exact congrArg L2.V.int (by omega)
  | 1 =>
    cases e
    refine ⟨by decide, wd1, fun m v hv => ?_⟩
    show v = L2.V.int t
    rw [hv, ← ht]
  | _ + 2 => cases e

theorem law_fin {P : Program} {K : PySem.W.Frag} {w : World} {h : Heap} {mg : Str → Option Value} {fa : Addr} {C0 C1 C2 C3 C4 C5 C6 C7 C8 C9 C10 C11 C12 C13 C14 C15 : Addr} (X : K.In h) (Gn : h.Ns mainGlobals mg) (hfa : mg "law" = some (.ref fa))
    (a0 : PySem.W.nsIn K mainGlobals "TieError" = some (some (.ref C0)))
    (a1 : PySem.W.nsIn K mainGlobals "InvalidNumber" = some (some (.ref C1)))
    (a2 : PySem.W.nsIn K mainGlobals "InvalidCompany" = some (some (.ref C2)))
    (a3 : PySem.W.nsIn K mainGlobals "InvalidPerson" = some (some (.ref C3)))
    (a4 : PySem.W.nsIn K mainGlobals "InvalidCouple" = some (some (.ref C4)))
    (a5 : PySem.W.nsIn K mainGlobals "InvalidLot" = some (some (.ref C5)))
    (a6 : PySem.W.nsIn K mainGlobals "InvalidDeed" = some (some (.ref C6)))
    (a7 : PySem.W.nsIn K mainGlobals "InvalidPrices" = some (some (.ref C7)))
    (a8 : PySem.W.nsIn K mainGlobals "InvalidWishes" = some (some (.ref C8)))
    (a9 : PySem.W.nsIn K mainGlobals "InvalidProgram" = some (some (.ref C9)))
    (a10 : PySem.W.nsIn K mainGlobals "InvalidLeague" = some (some (.ref C10)))
    (a11 : PySem.W.nsIn K mainGlobals "InvalidLine" = some (some (.ref C11)))
    (a12 : PySem.W.nsIn K mainGlobals "Unlike" = some (some (.ref C12)))
    (a13 : PySem.W.nsIn K mainGlobals "TooMany" = some (some (.ref C13)))
    (a14 : PySem.W.nsIn K mainGlobals "NothingToUndo" = some (some (.ref C14)))
    (a15 : PySem.W.nsIn K mainGlobals "NothingToRedo" = some (some (.ref C15)))
    (b : ancB K [C0, C1, C2, C3, C4, C5, C6, C7, C8, C9, C10, C11, C12, C13, C14, C15] nC anc = true)
    (x0 : PySem.W.excIn K C0 PySem.HandSPX.veTail "ValueError.__new__" = true)
    (t1 : ∃ fI qual, PySem.TieX.TieTxt P K C1 fI qual)
    (t2 : ∃ fI qual, PySem.TieX.TieTxt P K C2 fI qual)
    (t3 : ∃ fI qual, PySem.TieX.TieTxt P K C3 fI qual)
    (t4 : ∃ fI qual, PySem.TieX.TieTxt P K C4 fI qual)
    (t5 : ∃ fI qual, PySem.TieX.TieTxt P K C5 fI qual)
    (t6 : ∃ fI qual, PySem.TieX.TieTxt P K C6 fI qual)
    (t7 : ∃ fI qual, PySem.TieX.TieTxt P K C7 fI qual)
    (t8 : ∃ fI qual, PySem.TieX.TieTxt P K C8 fI qual)
    (t9 : ∃ fI qual, PySem.TieX.TieTxt P K C9 fI qual)
    (t10 : ∃ fI qual, PySem.TieX.TieTxt P K C10 fI qual)
    (t11 : ∃ fI qual, PySem.TieX.TieTxt P K C11 fI qual)
    (t12 : ∃ fI qual, PySem.TieX.TieTxt P K C12 fI qual)
    (t13 : ∃ fI qual, PySem.TieX.TieTxt P K C13 fI qual)
    (x14 : PySem.W.excIn K C14 PySem.HandSPX.veTail "ValueError.__new__" = true)
    (x15 : PySem.W.excIn K C15 PySem.HandSPX.veTail "ValueError.__new__" = true)
    (z_ValueError : PySem.W.nsIn K mainGlobals "ValueError" = some none)
    (z_enumerate : PySem.W.nsIn K mainGlobals "enumerate" = some none)
    (z_int : PySem.W.nsIn K mainGlobals "int" = some none)
    (z_isinstance : PySem.W.nsIn K mainGlobals "isinstance" = some none)
    (z_len : PySem.W.nsIn K mainGlobals "len" = some none)
    (z_max : PySem.W.nsIn K mainGlobals "max" = some none)
    (z_range : PySem.W.nsIn K mainGlobals "range" = some none)
    (z_repr : PySem.W.nsIn K mainGlobals "repr" = some none)
    (z_sum : PySem.W.nsIn K mainGlobals "sum" = some none)
    (z_super : PySem.W.nsIn K mainGlobals "super" = some none)
    (d0 : ∃ f fd, Df K mg "_law_cell" st__law_cell f fd)
    (d1 : ∃ f fd, Df K mg "_law_generator" st__law_generator f fd)
    (d2 : ∃ f fd, Df K mg "_law_hash" st__law_hash f fd)
    (d3 : ∃ f fd, Df K mg "_law_random" st__law_random f fd)
    (d4 : ∃ f fd, Df K mg "_law_made" st__law_made f fd)
    (d5 : ∃ f fd, Df K mg "_law_kinds" st__law_kinds f fd)
    (d6 : ∃ f fd, Df K mg "_law_row_right" st__law_row_right f fd)
    (d7 : ∃ f fd, Df K mg "_law_empty" st__law_empty f fd)
    (d8 : ∃ f fd, Df K mg "_law_by_name" st__law_by_name f fd)
    (d9 : ∃ f fd, Df K mg "law" st_law f fd)
    : ∃ fd : FuncData, (∀ (s : Shared) (u : Value), BindsTo s fd ⟨[u], []⟩ [("_law_script", u)]) ∧ ∀ (a : Addr) (ns : List Int), ns.length ≤ 63 → ∃ (G : Gx) (fn : Fn), (G.m0 = ⟨[], []⟩ ∧ G.tt = [] ∧ G.sa = a ∧ G.K = K ∧ G.ns = ns) ∧ FnG G P w K mg 3 fa fd ["_law_script"] fn ∧ ∃ h', fn [.scr] (AH.nil ns) = .ok (.bl true) h' := by
  obtain ⟨f0, fd0, d0⟩ := d0
  obtain ⟨f1, fd1, d1⟩ := d1
  obtain ⟨f2, fd2, d2⟩ := d2
  obtain ⟨f3, fd3, d3⟩ := d3
  obtain ⟨f4, fd4, d4⟩ := d4
  obtain ⟨f5, fd5, d5⟩ := d5
  obtain ⟨f6, fd6, d6⟩ := d6
  obtain ⟨f7, fd7, d7⟩ := d7
  obtain ⟨f8, fd8, d8⟩ := d8
  obtain ⟨f9, fd9, d9⟩ := d9
  obtain ⟨q1, q2⟩ := ancB_ok b
  have e := hfa.symm.trans d9.m
  cases e
  have T : ∀ G : Gx, G.K = K → G.ga = gaOf [C0, C1, C2, C3, C4, C5, C6, C7, C8, C9, C10, C11, C12, C13, C14, C15] → Facts G P K mg (fun | 0 => f0 | 1 => f1 | 2 => f2 | 3 => f3 | 4 => f4 | 5 => f5 | 6 => f6 | 7 => f7 | 8 => f8 | 9 => fa | _ => fa) (fun | 0 => fd0 | 1 => fd1 | 2 => fd2 | 3 => fd3 | 4 => fd4 | 5 => fd5 | 6 => fd6 | 7 => fd7 | 8 => fd8 | 9 => fd9 | _ => fd9) := fun G e1 e2 => {
    hK := e1.symm, anc := by rw [e2]; exact q1, cls := by rw [e2]; exact q2,
    c_TieError := by rw [e2]; exact PySem.W.mg_of X Gn a0,
    x_TieError := by rw [e2]; exact x0,
    c_InvalidNumber := by rw [e2]; exact PySem.W.mg_of X Gn a1,
    t_InvalidNumber := by rw [e2]; exact t1,
    c_InvalidCompany := by rw [e2]; exact PySem.W.mg_of X Gn a2,
    t_InvalidCompany := by rw [e2]; exact t2,
    c_InvalidPerson := by rw [e2]; exact PySem.W.mg_of X Gn a3,
    t_InvalidPerson := by rw [e2]; exact t3,
    c_InvalidCouple := by rw [e2]; exact PySem.W.mg_of X Gn a4,
    t_InvalidCouple := by rw [e2]; exact t4,
    c_InvalidLot := by rw [e2]; exact PySem.W.mg_of X Gn a5,
    t_InvalidLot := by rw [e2]; exact t5,
    c_InvalidDeed := by rw [e2]; exact PySem.W.mg_of X Gn a6,
    t_InvalidDeed := by rw [e2]; exact t6,
    c_InvalidPrices := by rw [e2]; exact PySem.W.mg_of X Gn a7,
    t_InvalidPrices := by rw [e2]; exact t7,
    c_InvalidWishes := by rw [e2]; exact PySem.W.mg_of X Gn a8,
    t_InvalidWishes := by rw [e2]; exact t8,
    c_InvalidProgram := by rw [e2]; exact PySem.W.mg_of X Gn a9,
    t_InvalidProgram := by rw [e2]; exact t9,
    c_InvalidLeague := by rw [e2]; exact PySem.W.mg_of X Gn a10,
    t_InvalidLeague := by rw [e2]; exact t10,
    c_InvalidLine := by rw [e2]; exact PySem.W.mg_of X Gn a11,
    t_InvalidLine := by rw [e2]; exact t11,
    c_Unlike := by rw [e2]; exact PySem.W.mg_of X Gn a12,
    t_Unlike := by rw [e2]; exact t12,
    c_TooMany := by rw [e2]; exact PySem.W.mg_of X Gn a13,
    t_TooMany := by rw [e2]; exact t13,
    c_NothingToUndo := by rw [e2]; exact PySem.W.mg_of X Gn a14,
    x_NothingToUndo := by rw [e2]; exact x14,
    c_NothingToRedo := by rw [e2]; exact PySem.W.mg_of X Gn a15,
    x_NothingToRedo := by rw [e2]; exact x15,
    z_ValueError := PySem.W.mg_none_of X Gn z_ValueError,
    z_enumerate := PySem.W.mg_none_of X Gn z_enumerate,
    z_int := PySem.W.mg_none_of X Gn z_int,
    z_isinstance := PySem.W.mg_none_of X Gn z_isinstance,
    z_len := PySem.W.mg_none_of X Gn z_len,
    z_max := PySem.W.mg_none_of X Gn z_max,
    z_range := PySem.W.mg_none_of X Gn z_range,
    z_repr := PySem.W.mg_none_of X Gn z_repr,
    z_sum := PySem.W.mg_none_of X Gn z_sum,
    z_super := PySem.W.mg_none_of X Gn z_super,
    d__law_cell := d0, d__law_generator := d1, d__law_hash := d2, d__law_random := d3, d__law_made := d4, d__law_kinds := d5, d__law_row_right := d6, d__law_empty := d7, d__law_by_name := d8, d_law := d9 }
  refine ⟨fd9, fun s u => ?_, fun a ns _ => law_all (w := w) T a ns⟩
  obtain ⟨_, _, _, _, _, _, _, _, _, ez, _, _⟩ := d9.F.ex
  rw [ez]
  exact .of_eq rfl
end Pm
open PySem PySem.W PyProof.Rows
set_option maxHeartbeats 0 in
theorem PySem.Challenge.cw_twinties_k04_errors_by_their_classes_holds : PySem.Challenge.rw_twinties_k04_errors_by_their_classes.Holds := by
  w_on; o_law; k_head; (case hw => w_witness2)
  k_fill
  refine Pm.law_walk (l := PySem.Challenge.rw_twinties_k04_errors_by_their_classes) (n := 63) (k := 3) (x := "_law_script") rfl (by decide) rfl ⟨rfl, by decide, by decide⟩ (fun w h Y => PySem.W.kIn_of Y) ?F
  case F =>
    intro w mg fa h KX G hmg
    refine' Pm.law_fin KX G hmg ?a0 ?a1 ?a2 ?a3 ?a4 ?a5 ?a6 ?a7 ?a8 ?a9 ?a10 ?a11 ?a12 ?a13 ?a14 ?a15 ?b ?x0 ?t1 ?t2 ?t3 ?t4 ?t5 ?t6 ?t7 ?t8 ?t9 ?t10 ?t11 ?t12 ?t13 ?x14 ?x15 ?z_ValueError ?z_enumerate ?z_int ?z_isinstance ?z_len ?z_max ?z_range ?z_repr ?z_sum ?z_super ?d0 ?d1 ?d2 ?d3 ?d4 ?d5 ?d6 ?d7 ?d8 ?d9
    (case a0 => k_is)
    (case a1 => k_is)
    (case a2 => k_is)
    (case a3 => k_is)
    (case a4 => k_is)
    (case a5 => k_is)
    (case a6 => k_is)
    (case a7 => k_is)
    (case a8 => k_is)
    (case a9 => k_is)
    (case a10 => k_is)
    (case a11 => k_is)
    (case a12 => k_is)
    (case a13 => k_is)
    (case a14 => k_is)
    (case a15 => k_is)
    (case b => kernel_rfl)
    (case x0 => kernel_rfl)
    (case t1 => refine' Pm.tie_mk [⟨7, 8, 7, 13⟩, ⟨7, 8, 7, 15⟩, ⟨7, 8, 7, 24⟩, ⟨7, 25, 7, 30⟩, ⟨7, 8, 7, 31⟩, ⟨7, 8, 7, 31⟩, ⟨8, 8, 8, 12⟩, ⟨8, 8, 8, 18⟩, ⟨8, 21, 8, 26⟩, ⟨8, 8, 8, 26⟩] ?B ?hC ?iC ?tI ?lf ?cd ?lc ?lx ?lT ?hv ?hf ?hbm ?hal ?op ?sup ?tops ?ev; (case B => exact Pm.clsB_ok (by kernel_rfl)); (case hC => k_is); (case iC => k_is); (case tI => k_is); (case lf => k_is); (case cd => k_is); (case lc => k_is); (case lx => k_is); (case lT => k_is); (case hv => rfl); (case hf => kernel_rfl); (case hbm => kernel_rfl); (case hal => kernel_rfl); (case op => k_is); (case sup => k_is); (case tops => kernel_rfl); (case ev => exact fun env => ⟨_, rfl⟩))
    (case t2 => refine' Pm.tie_mk [⟨12, 8, 12, 13⟩, ⟨12, 8, 12, 15⟩, ⟨12, 8, 12, 24⟩, ⟨12, 25, 12, 30⟩, ⟨12, 8, 12, 31⟩, ⟨12, 8, 12, 31⟩, ⟨13, 8, 13, 12⟩, ⟨13, 8, 13, 18⟩, ⟨13, 21, 13, 26⟩, ⟨13, 8, 13, 26⟩] ?B ?hC ?iC ?tI ?lf ?cd ?lc ?lx ?lT ?hv ?hf ?hbm ?hal ?op ?sup ?tops ?ev; (case B => exact Pm.clsB_ok (by kernel_rfl)); (case hC => k_is); (case iC => k_is); (case tI => k_is); (case lf => k_is); (case cd => k_is); (case lc => k_is); (case lx => k_is); (case lT => k_is); (case hv => rfl); (case hf => kernel_rfl); (case hbm => kernel_rfl); (case hal => kernel_rfl); (case op => k_is); (case sup => k_is); (case tops => kernel_rfl); (case ev => exact fun env => ⟨_, rfl⟩))
    (case t3 => refine' Pm.tie_mk [⟨17, 8, 17, 13⟩, ⟨17, 8, 17, 15⟩, ⟨17, 8, 17, 24⟩, ⟨17, 25, 17, 30⟩, ⟨17, 8, 17, 31⟩, ⟨17, 8, 17, 31⟩, ⟨18, 8, 18, 12⟩, ⟨18, 8, 18, 18⟩, ⟨18, 21, 18, 26⟩, ⟨18, 8, 18, 26⟩] ?B ?hC ?iC ?tI ?lf ?cd ?lc ?lx ?lT ?hv ?hf ?hbm ?hal ?op ?sup ?tops ?ev; (case B => exact Pm.clsB_ok (by kernel_rfl)); (case hC => k_is); (case iC => k_is); (case tI => k_is); (case lf => k_is); (case cd => k_is); (case lc => k_is); (case lx => k_is); (case lT => k_is); (case hv => rfl); (case hf => kernel_rfl); (case hbm => kernel_rfl); (case hal => kernel_rfl); (case op => k_is); (case sup => k_is); (case tops => kernel_rfl); (case ev => exact fun env => ⟨_, rfl⟩))
    (case t4 => refine' Pm.tie_mk [⟨22, 8, 22, 13⟩, ⟨22, 8, 22, 15⟩, ⟨22, 8, 22, 24⟩, ⟨22, 25, 22, 30⟩, ⟨22, 8, 22, 31⟩, ⟨22, 8, 22, 31⟩, ⟨23, 8, 23, 12⟩, ⟨23, 8, 23, 18⟩, ⟨23, 21, 23, 26⟩, ⟨23, 8, 23, 26⟩] ?B ?hC ?iC ?tI ?lf ?cd ?lc ?lx ?lT ?hv ?hf ?hbm ?hal ?op ?sup ?tops ?ev; (case B => exact Pm.clsB_ok (by kernel_rfl)); (case hC => k_is); (case iC => k_is); (case tI => k_is); (case lf => k_is); (case cd => k_is); (case lc => k_is); (case lx => k_is); (case lT => k_is); (case hv => rfl); (case hf => kernel_rfl); (case hbm => kernel_rfl); (case hal => kernel_rfl); (case op => k_is); (case sup => k_is); (case tops => kernel_rfl); (case ev => exact fun env => ⟨_, rfl⟩))
    (case t5 => refine' Pm.tie_mk [⟨27, 8, 27, 13⟩, ⟨27, 8, 27, 15⟩, ⟨27, 8, 27, 24⟩, ⟨27, 25, 27, 30⟩, ⟨27, 8, 27, 31⟩, ⟨27, 8, 27, 31⟩, ⟨28, 8, 28, 12⟩, ⟨28, 8, 28, 18⟩, ⟨28, 21, 28, 26⟩, ⟨28, 8, 28, 26⟩] ?B ?hC ?iC ?tI ?lf ?cd ?lc ?lx ?lT ?hv ?hf ?hbm ?hal ?op ?sup ?tops ?ev; (case B => exact Pm.clsB_ok (by kernel_rfl)); (case hC => k_is); (case iC => k_is); (case tI => k_is); (case lf => k_is); (case cd => k_is); (case lc => k_is); (case lx => k_is); (case lT => k_is); (case hv => rfl); (case hf => kernel_rfl); (case hbm => kernel_rfl); (case hal => kernel_rfl); (case op => k_is); (case sup => k_is); (case tops => kernel_rfl); (case ev => exact fun env => ⟨_, rfl⟩))
    (case t6 => refine' Pm.tie_mk [⟨32, 8, 32, 13⟩, ⟨32, 8, 32, 15⟩, ⟨32, 8, 32, 24⟩, ⟨32, 25, 32, 30⟩, ⟨32, 8, 32, 31⟩, ⟨32, 8, 32, 31⟩, ⟨33, 8, 33, 12⟩, ⟨33, 8, 33, 18⟩, ⟨33, 21, 33, 26⟩, ⟨33, 8, 33, 26⟩] ?B ?hC ?iC ?tI ?lf ?cd ?lc ?lx ?lT ?hv ?hf ?hbm ?hal ?op ?sup ?tops ?ev; (case B => exact Pm.clsB_ok (by kernel_rfl)); (case hC => k_is); (case iC => k_is); (case tI => k_is); (case lf => k_is); (case cd => k_is); (case lc => k_is); (case lx => k_is); (case lT => k_is); (case hv => rfl); (case hf => kernel_rfl); (case hbm => kernel_rfl); (case hal => kernel_rfl); (case op => k_is); (case sup => k_is); (case tops => kernel_rfl); (case ev => exact fun env => ⟨_, rfl⟩))
    (case t7 => refine' Pm.tie_mk [⟨37, 8, 37, 13⟩, ⟨37, 8, 37, 15⟩, ⟨37, 8, 37, 24⟩, ⟨37, 25, 37, 30⟩, ⟨37, 8, 37, 31⟩, ⟨37, 8, 37, 31⟩, ⟨38, 8, 38, 12⟩, ⟨38, 8, 38, 18⟩, ⟨38, 21, 38, 26⟩, ⟨38, 8, 38, 26⟩] ?B ?hC ?iC ?tI ?lf ?cd ?lc ?lx ?lT ?hv ?hf ?hbm ?hal ?op ?sup ?tops ?ev; (case B => exact Pm.clsB_ok (by kernel_rfl)); (case hC => k_is); (case iC => k_is); (case tI => k_is); (case lf => k_is); (case cd => k_is); (case lc => k_is); (case lx => k_is); (case lT => k_is); (case hv => rfl); (case hf => kernel_rfl); (case hbm => kernel_rfl); (case hal => kernel_rfl); (case op => k_is); (case sup => k_is); (case tops => kernel_rfl); (case ev => exact fun env => ⟨_, rfl⟩))
    (case t8 => refine' Pm.tie_mk [⟨42, 8, 42, 13⟩, ⟨42, 8, 42, 15⟩, ⟨42, 8, 42, 24⟩, ⟨42, 25, 42, 30⟩, ⟨42, 8, 42, 31⟩, ⟨42, 8, 42, 31⟩, ⟨43, 8, 43, 12⟩, ⟨43, 8, 43, 18⟩, ⟨43, 21, 43, 26⟩, ⟨43, 8, 43, 26⟩] ?B ?hC ?iC ?tI ?lf ?cd ?lc ?lx ?lT ?hv ?hf ?hbm ?hal ?op ?sup ?tops ?ev; (case B => exact Pm.clsB_ok (by kernel_rfl)); (case hC => k_is); (case iC => k_is); (case tI => k_is); (case lf => k_is); (case cd => k_is); (case lc => k_is); (case lx => k_is); (case lT => k_is); (case hv => rfl); (case hf => kernel_rfl); (case hbm => kernel_rfl); (case hal => kernel_rfl); (case op => k_is); (case sup => k_is); (case tops => kernel_rfl); (case ev => exact fun env => ⟨_, rfl⟩))
    (case t9 => refine' Pm.tie_mk [⟨47, 8, 47, 13⟩, ⟨47, 8, 47, 15⟩, ⟨47, 8, 47, 24⟩, ⟨47, 25, 47, 30⟩, ⟨47, 8, 47, 31⟩, ⟨47, 8, 47, 31⟩, ⟨48, 8, 48, 12⟩, ⟨48, 8, 48, 18⟩, ⟨48, 21, 48, 26⟩, ⟨48, 8, 48, 26⟩] ?B ?hC ?iC ?tI ?lf ?cd ?lc ?lx ?lT ?hv ?hf ?hbm ?hal ?op ?sup ?tops ?ev; (case B => exact Pm.clsB_ok (by kernel_rfl)); (case hC => k_is); (case iC => k_is); (case tI => k_is); (case lf => k_is); (case cd => k_is); (case lc => k_is); (case lx => k_is); (case lT => k_is); (case hv => rfl); (case hf => kernel_rfl); (case hbm => kernel_rfl); (case hal => kernel_rfl); (case op => k_is); (case sup => k_is); (case tops => kernel_rfl); (case ev => exact fun env => ⟨_, rfl⟩))
    (case t10 => refine' Pm.tie_mk [⟨52, 8, 52, 13⟩, ⟨52, 8, 52, 15⟩, ⟨52, 8, 52, 24⟩, ⟨52, 25, 52, 30⟩, ⟨52, 8, 52, 31⟩, ⟨52, 8, 52, 31⟩, ⟨53, 8, 53, 12⟩, ⟨53, 8, 53, 18⟩, ⟨53, 21, 53, 26⟩, ⟨53, 8, 53, 26⟩] ?B ?hC ?iC ?tI ?lf ?cd ?lc ?lx ?lT ?hv ?hf ?hbm ?hal ?op ?sup ?tops ?ev; (case B => exact Pm.clsB_ok (by kernel_rfl)); (case hC => k_is); (case iC => k_is); (case tI => k_is); (case lf => k_is); (case cd => k_is); (case lc => k_is); (case lx => k_is); (case lT => k_is); (case hv => rfl); (case hf => kernel_rfl); (case hbm => kernel_rfl); (case hal => kernel_rfl); (case op => k_is); (case sup => k_is); (case tops => kernel_rfl); (case ev => exact fun env => ⟨_, rfl⟩))
    (case t11 => refine' Pm.tie_mk [⟨57, 8, 57, 13⟩, ⟨57, 8, 57, 15⟩, ⟨57, 8, 57, 24⟩, ⟨57, 25, 57, 30⟩, ⟨57, 8, 57, 31⟩, ⟨57, 8, 57, 31⟩, ⟨58, 8, 58, 12⟩, ⟨58, 8, 58, 18⟩, ⟨58, 21, 58, 26⟩, ⟨58, 8, 58, 26⟩] ?B ?hC ?iC ?tI ?lf ?cd ?lc ?lx ?lT ?hv ?hf ?hbm ?hal ?op ?sup ?tops ?ev; (case B => exact Pm.clsB_ok (by kernel_rfl)); (case hC => k_is); (case iC => k_is); (case tI => k_is); (case lf => k_is); (case cd => k_is); (case lc => k_is); (case lx => k_is); (case lT => k_is); (case hv => rfl); (case hf => kernel_rfl); (case hbm => kernel_rfl); (case hal => kernel_rfl); (case op => k_is); (case sup => k_is); (case tops => kernel_rfl); (case ev => exact fun env => ⟨_, rfl⟩))
    (case t12 => refine' Pm.tie_mk [⟨62, 8, 62, 13⟩, ⟨62, 8, 62, 15⟩, ⟨62, 8, 62, 24⟩, ⟨62, 25, 62, 30⟩, ⟨62, 8, 62, 31⟩, ⟨62, 8, 62, 31⟩, ⟨63, 8, 63, 12⟩, ⟨63, 8, 63, 18⟩, ⟨63, 21, 63, 26⟩, ⟨63, 8, 63, 26⟩] ?B ?hC ?iC ?tI ?lf ?cd ?lc ?lx ?lT ?hv ?hf ?hbm ?hal ?op ?sup ?tops ?ev; (case B => exact Pm.clsB_ok (by kernel_rfl)); (case hC => k_is); (case iC => k_is); (case tI => k_is); (case lf => k_is); (case cd => k_is); (case lc => k_is); (case lx => k_is); (case lT => k_is); (case hv => rfl); (case hf => kernel_rfl); (case hbm => kernel_rfl); (case hal => kernel_rfl); (case op => k_is); (case sup => k_is); (case tops => kernel_rfl); (case ev => exact fun env => ⟨_, rfl⟩))
    (case t13 => refine' Pm.tie_mk [⟨67, 8, 67, 13⟩, ⟨67, 8, 67, 15⟩, ⟨67, 8, 67, 24⟩, ⟨67, 25, 67, 30⟩, ⟨67, 8, 67, 31⟩, ⟨67, 8, 67, 31⟩, ⟨68, 8, 68, 12⟩, ⟨68, 8, 68, 18⟩, ⟨68, 21, 68, 26⟩, ⟨68, 8, 68, 26⟩] ?B ?hC ?iC ?tI ?lf ?cd ?lc ?lx ?lT ?hv ?hf ?hbm ?hal ?op ?sup ?tops ?ev; (case B => exact Pm.clsB_ok (by kernel_rfl)); (case hC => k_is); (case iC => k_is); (case tI => k_is); (case lf => k_is); (case cd => k_is); (case lc => k_is); (case lx => k_is); (case lT => k_is); (case hv => rfl); (case hf => kernel_rfl); (case hbm => kernel_rfl); (case hal => kernel_rfl); (case op => k_is); (case sup => k_is); (case tops => kernel_rfl); (case ev => exact fun env => ⟨_, rfl⟩))
    (case x14 => kernel_rfl)
    (case x15 => kernel_rfl)
    (case z_ValueError => k_is)
    (case z_enumerate => k_is)
    (case z_int => k_is)
    (case z_isinstance => k_is)
    (case z_len => k_is)
    (case z_max => k_is)
    (case z_range => k_is)
    (case z_repr => k_is)
    (case z_sum => k_is)
    (case z_super => k_is)
    (case d0 => refine' Pm.df_mk Pm.st__law_cell KX G ?a ?l ?c ?k; (case a => k_is); (case l => k_is); (case c => k_is); (case k => k_is))
    (case d1 => refine' Pm.df_mk Pm.st__law_generator KX G ?a ?l ?c ?k; (case a => k_is); (case l => k_is); (case c => k_is); (case k => k_is))
    (case d2 => refine' Pm.df_mk Pm.st__law_hash KX G ?a ?l ?c ?k; (case a => k_is); (case l => k_is); (case c => k_is); (case k => k_is))
    (case d3 => refine' Pm.df_mk Pm.st__law_random KX G ?a ?l ?c ?k; (case a => k_is); (case l => k_is); (case c => k_is); (case k => k_is))
    (case d4 => refine' Pm.df_mk Pm.st__law_made KX G ?a ?l ?c ?k; (case a => k_is); (case l => k_is); (case c => k_is); (case k => k_is))
    (case d5 => refine' Pm.df_mk Pm.st__law_kinds KX G ?a ?l ?c ?k; (case a => k_is); (case l => k_is); (case c => k_is); (case k => k_is))
    (case d6 => refine' Pm.df_mk Pm.st__law_row_right KX G ?a ?l ?c ?k; (case a => k_is); (case l => k_is); (case c => k_is); (case k => k_is))
    (case d7 => refine' Pm.df_mk Pm.st__law_empty KX G ?a ?l ?c ?k; (case a => k_is); (case l => k_is); (case c => k_is); (case k => k_is))
    (case d8 => refine' Pm.df_mk Pm.st__law_by_name KX G ?a ?l ?c ?k; (case a => k_is); (case l => k_is); (case c => k_is); (case k => k_is))
    (case d9 => refine' Pm.df_mk Pm.st_law KX G ?a ?l ?c ?k; (case a => k_is); (case l => k_is); (case c => k_is); (case k => k_is))
