import PyProof.Rows.All
import Wide.All
import OpenK.AllK
import Wide.FinOn
import HandS.ForExc
import HandS.ForMost
import HandS.Wide
import HandS.WideBits
import HandS.IsInst
import HandS.TupAny
import HandS.Text
import HandS.WordsDict
import HandS.ExcIs
import HandS.ExcField
import HandS.Small
import HandS.Deep
import HandS.Style
import HandS.ExcInit
import KE.KSortTupG
import PyProof.Rows.SortStr
import PyProof.Rows.SortShellAny
import HandS.SortKw
import KE.DatumOrd
import HandS.More
import HandS.Set
import HandS.SetFor
import HandS.Strs
import HandS.SortInts
import PySem.Challenge.RW_prunepath_k41_whole_ladder_meets_path
set_option Elab.async false
set_option linter.all false
set_option maxRecDepth 100000
set_option maxHeartbeats 4000000
set_option exponentiation.threshold 30000
namespace PF

/-- values: tuples are values, lists, dicts, instances stand in the store -/
inductive W where
  | non | bl (b : Bool) | int (i : Int) | str (s : List Nat) | tup (ws : List W) | fl (ws : List W) | ref (i : Nat) | err | errF (f : List Nat) (w : W) | obj (c : Nat) (ns : List (List Nat)) (ws : List W)
  deriving Inhabited

mutual
def W.eqB : W → W → Bool
  | .non, .non => true
  | .bl a, .bl b => a == b
  | .int a, .int b => a == b
  | .str a, .str b => a == b
  | .tup a, .tup b => W.eqL a b
  | .fl a, .fl b => W.eqL a b
  | .ref a, .ref b => a == b
  | .err, .err => true
  | .errF f a, .errF g b => f == g && W.eqB a b
  | .obj c ns a, .obj d ms b => c == d && (ns == ms && W.eqL a b)
  | _, _ => false
def W.eqL : List W → List W → Bool
  | [], [] => true
  | a :: as, b :: bs => W.eqB a b && W.eqL as bs
  | _, _ => false
end
mutual
theorem W.eqB_iff : ∀ a b : W, W.eqB a b = true ↔ a = b
  | .non, b => by cases b <;> simp [W.eqB]
  | .bl a, b => by cases b <;> simp [W.eqB]
  | .int a, b => by cases b <;> simp [W.eqB]
  | .str a, b => by cases b <;> simp [W.eqB]
  | .ref a, b => by cases b <;> simp [W.eqB]
  | .err, b => by cases b <;> simp [W.eqB]
  | .errF f a, b => by cases b <;> simp [W.eqB, W.eqB_iff a]
  | .tup a, b => by cases b <;> simp [W.eqB, W.eqL_iff a]
  | .fl a, b => by cases b <;> simp [W.eqB, W.eqL_iff a]
  | .obj c ns a, b => by cases b <;> simp [W.eqB, W.eqL_iff a]
theorem W.eqL_iff : ∀ a b : List W, W.eqL a b = true ↔ a = b
  | [], b => by cases b <;> simp [W.eqL]
  | a :: as, b => by cases b <;> simp [W.eqL, W.eqB_iff a, W.eqL_iff as]
end
instance : DecidableEq W := fun a b => if h : W.eqB a b = true then .isTrue ((W.eqB_iff a b).1 h) else .isFalse fun e => h ((W.eqB_iff a b).2 e)

abbrev Key := Sum Int (List Nat)
inductive Cell where
  | lst (ws : List W)
  | dct (kvs : List (Key × W))
  | ins (c : Nat) (fs : List (List Nat × W))
  deriving DecidableEq

abbrev Hs := List Cell
abbrev Env := List (Option W)
/-- what an exception carries: its text alone, or one field -/
abbrev Pay := Option (List Nat × W)
inductive Res (α : Type) where
  | ok (a : α) (h : Hs)
  | exc (c : Nat) (p : Pay) (h : Hs)
  | stuck
def Res.bind {α β : Type} (r : Res α) (k : α → Hs → Res β) : Res β := match r with
  | .ok a h => k a h
  | .exc c p h => .exc c p h
  | .stuck => .stuck
def Res.noX {α : Type} (r : Res α) : Res α := match r with
  | .ok a h => .ok a h
  | _ => .stuck
@[simp] theorem Res.noX_ok {α : Type} (a : α) (h : Hs) : (Res.ok a h).noX = .ok a h := (rfl)
@[simp] theorem Res.bind_ok {α β : Type} (a : α) (h : Hs) (k : α → Hs → Res β) : (Res.ok a h).bind k = k a h := (rfl)
@[simp] theorem Res.bind_exc {α β : Type} (c : Nat) (p : Pay) (h : Hs) (k : α → Hs → Res β) : (Res.exc c p h).bind k = .exc c p h := (rfl)
@[simp] theorem Res.bind_stuck {α β : Type} (k : α → Hs → Res β) : (Res.stuck : Res α).bind k = .stuck := (rfl)
inductive Out where
  | nx (ρ : Env) (h : Hs)
  | ret (w : W) (h : Hs)
  | bk (ρ : Env) (h : Hs)
  | ct (ρ : Env) (h : Hs)
  | exc (c : Nat) (p : Pay) (ρ : Env) (h : Hs)
  | stuck
abbrev D := Env → Hs → Res W
abbrev T := Env → Hs → Res Bool
abbrev As := Env → Hs → Res (List W)
abbrev Sm := Env → Hs → Out
abbrev Fn := List W → Hs → Res W

/-! ### expressions -/
def dV (i : Nat) : D := fun ρ h => match ρ[i]? with
  | some (some w) => .ok w h
  | _ => .stuck
def dC (w : W) : D := fun _ h => .ok w h
def dBin (o : W → W → Hs → Res W) (a b : D) : D := fun ρ h => (a ρ h).bind fun x h1 => (b ρ h1).bind fun y h2 => o x y h2
def dUn (o : W → Hs → Res W) (a : D) : D := fun ρ h => (a ρ h).bind fun x h1 => o x h1
/-- a op b op' c -/
def dChain (o o' : W → W → Hs → Res W) (a b c : D) : D := fun ρ h => (a ρ h).bind fun x h1 => (b ρ h1).bind fun y h2 => (o x y h2).bind fun z h3 => match z with
  | .bl true => (c ρ h3).bind fun x' h4 => o' y x' h4
  | .bl false => .ok (.bl false) h3
  | _ => .stuck
def asB {α : Type} (w : W) (k : Bool → Res α) : Res α := match w with
  | .bl b => k b
  | _ => .stuck
@[simp] theorem asB_bl {α : Type} (b : Bool) (k : Bool → Res α) : asB (.bl b) k = k b := (rfl)
def dAnd (a b : D) : D := fun ρ h => (a ρ h).bind fun x h1 => asB x fun c => if c = true then b ρ h1 else .ok (.bl false) h1
def dOr (a b : D) : D := fun ρ h => (a ρ h).bind fun x h1 => asB x fun c => if c = true then .ok (.bl true) h1 else b ρ h1
def dNot (a : D) : D := fun ρ h => (a ρ h).bind fun x h1 => asB x fun c => .ok (.bl (!c)) h1
def tVal (a : D) : T := fun ρ h => (a ρ h).bind fun x h1 => asB x fun c => .ok c h1
def tAnd (a b : T) : T := fun ρ h => (a ρ h).bind fun c h1 => if c = true then b ρ h1 else .ok false h1
def tOr (a b : T) : T := fun ρ h => (a ρ h).bind fun c h1 => if c = true then .ok true h1 else b ρ h1
def tNot (a : T) : T := fun ρ h => (a ρ h).bind fun c h1 => .ok (!c) h1
def dIf (t : T) (a b : D) : D := fun ρ h => (t ρ h).bind fun c h1 => if c = true then a ρ h1 else b ρ h1
def aNil : As := fun _ h => .ok [] h
def aCons (a : D) (as : As) : As := fun ρ h => (a ρ h).bind fun x h1 => (as ρ h1).bind fun xs h2 => .ok (x :: xs) h2
/-- the largest length -/
def bigL : Nat := 16777216
def dTup (as : As) : D := fun ρ h => (as ρ h).bind fun xs h1 => if xs.length ≤ bigL then .ok (.tup xs) h1 else .stuck
def newL (xs : List W) (h : Hs) : Res W := .ok (.ref h.length) (h ++ [.lst xs])
def dLst (as : As) : D := fun ρ h => (as ρ h).bind fun xs h1 => if xs.length ≤ bigL then newL xs h1 else .stuck
def dDct : D := fun _ h => .ok (.ref h.length) (h ++ [.dct []])
def dCall (f : Fn) (as : As) : D := fun ρ h => (as ρ h).bind fun xs h1 => f xs h1
def dMet (o : W → List W → Hs → Res W) (a : D) (as : As) : D := fun ρ h => (a ρ h).bind fun x h1 => (as ρ h1).bind fun xs h2 => o x xs h2

/-! ### targets -/
inductive Tg where
  | n (i : Nat)
  | t (gs : List Tg)
mutual
def Tg.run : Tg → W → Env → Option Env
  | .n i, w, ρ => if i < ρ.length then some (ρ.set i (some w)) else none
  | .t gs, .tup ws, ρ => Tg.runs gs ws ρ
  | .t _, _, _ => none
def Tg.runs : List Tg → List W → Env → Option Env
  | [], [], ρ => some ρ
  | g :: gs, w :: ws, ρ => (Tg.run g w ρ).bind fun ρ1 => Tg.runs gs ws ρ1
  | _, _, _ => none
end
mutual
def Tg.ids : Tg → List Nat
  | .n i => [i]
  | .t gs => Tg.idss gs
def Tg.idss : List Tg → List Nat
  | [] => []
  | g :: gs => Tg.ids g ++ Tg.idss gs
end

/-! ### statements -/
def sNx : Sm := fun ρ h => .nx ρ h
def sSeq (a b : Sm) : Sm := fun ρ h => match a ρ h with
  | .nx ρ1 h1 => b ρ1 h1
  | r => r
def onR {α : Type} (r : Res α) (ρ : Env) (k : α → Hs → Out) : Out := match r with
  | .ok a h => k a h
  | .exc c p h => .exc c p ρ h
  | .stuck => .stuck
@[simp] theorem onR_ok {α : Type} (a : α) (h : Hs) (ρ : Env) (k : α → Hs → Out) : onR (.ok a h) ρ k = k a h := (rfl)
@[simp] theorem onR_exc {α : Type} (c : Nat) (p : Pay) (h : Hs) (ρ : Env) (k : α → Hs → Out) : onR (.exc c p h) ρ k = .exc c p ρ h := (rfl)
@[simp] theorem onR_stuck {α : Type} (ρ : Env) (k : α → Hs → Out) : onR (.stuck : Res α) ρ k = .stuck := (rfl)
def onO (o : Option Env) (k : Env → Out) : Out := match o with
  | some ρ => k ρ
  | none => .stuck
@[simp] theorem onO_some (ρ : Env) (k : Env → Out) : onO (some ρ) k = k ρ := (rfl)
@[simp] theorem onO_none (k : Env → Out) : onO none k = .stuck := (rfl)
def sExp (d : D) : Sm := fun ρ h => onR (d ρ h) ρ fun _ h1 => .nx ρ h1
def sRet (d : D) : Sm := fun ρ h => onR (d ρ h) ρ fun w h1 => .ret w h1
def sRetN : Sm := fun _ h => .ret .non h
def sAsg (d : D) (g : Tg) : Sm := fun ρ h => onR (d ρ h) ρ fun w h1 => onO (g.run w ρ) fun ρ1 => .nx ρ1 h1
/-- x op= e -/
def sAug (i : Nat) (o : W → W → Hs → Res W) (d : D) : Sm := fun ρ h => match ρ[i]? with
  | some (some x) => onR ((d ρ h).bind fun y h1 => o x y h1) ρ fun z h2 => .nx (ρ.set i (some z)) h2
  | _ => .stuck
def sIf (t : T) (a b : Sm) : Sm := fun ρ h => onR (t ρ h) ρ fun c h1 => if c = true then a ρ h1 else b ρ h1
def sBrk : Sm := fun ρ h => .bk ρ h
def sCnt : Sm := fun ρ h => .ct ρ h
/-- o[i] = e -/
def sSub (d o i : D) (st : W → W → W → Hs → Option Hs) : Sm := fun ρ h => onR (d ρ h) ρ fun v h1 => onR (o ρ h1) ρ fun x h2 => onR (i ρ h2) ρ fun y h3 => match st x y v h3 with
  | some h4 => .nx ρ h4
  | none => .stuck
/-- raise C('..') -/
def sRaise (c : Nat) : Sm := fun ρ h => .exc c none ρ h
/-- raise C(e), the error keeps e in a field -/
def sRaiseF (c : Nat) (name : List Nat) (d : D) : Sm := fun ρ h => onR (d ρ h) ρ fun w h1 => .exc c (some (name, w)) ρ h1

/-- what a list or a tuple at hand holds -/
def seqOf (w : W) (h : Hs) : Option (List W) := match w with
  | .tup ws => some ws
  | .fl ws => some ws
  | .ref i => match h[i]? with
    | some (.lst ws) => some ws
    | _ => none
  | _ => none
def lstOf (w : W) (h : Hs) : Option (List W) := match w with
  | .fl ws => some ws
  | .ref i => match h[i]? with
    | some (.lst ws) => some ws
    | _ => none
  | _ => none
/-- what is walked: the items, the lists that must stay -/
abbrev It := List W × List (W × List W)
def stays (g : List (W × List W)) (h : Hs) : Bool := g.all fun p => decide (lstOf p.1 h = some p.2)
abbrev I := Env → Hs → Res It
def forL (g : List (W × List W)) (tg : Tg) (b : Sm) : List W → Env → Hs → Out
  | [], ρ, h => if stays g h = true then .nx ρ h else .stuck
  | w :: ws, ρ, h => if stays g h = true then onO (tg.run w ρ) fun ρ1 => match b ρ1 h with
      | .nx ρ2 h2 => forL g tg b ws ρ2 h2
      | .ct ρ2 h2 => forL g tg b ws ρ2 h2
      | .bk ρ2 h2 => .nx ρ2 h2
      | r => r
    else .stuck
def sFor (it : I) (tg : Tg) (b : Sm) : Sm := fun ρ h => onR (it ρ h) ρ fun J h1 => forL J.2 tg b J.1 ρ h1
def iLst (d : D) : I := fun ρ h => (d ρ h).bind fun w h1 => match lstOf w h1 with
  | some ws => .ok (ws, [(w, ws)]) h1
  | none => .stuck
def iTup (d : D) : I := fun ρ h => (d ρ h).bind fun w h1 => match w with
  | .tup ws => .ok (ws, []) h1
  | _ => .stuck
/-- a list, a tuple, a text -/
def iAny (d : D) : I := fun ρ h => (d ρ h).bind fun w h1 => match w with
  | .tup ws => .ok (ws, []) h1
  | .str s => .ok (s.map fun c => .str [c], []) h1
  | .fl ws => .ok (ws, [(.fl ws, ws)]) h1
  | .ref i => match h1[i]? with
    | some (.lst ws) => .ok (ws, [(.ref i, ws)]) h1
    | _ => .stuck
  | _ => .stuck
def iStr (d : D) : I := fun ρ h => (d ρ h).bind fun w h1 => match w with
  | .str s => .ok (s.map fun c => .str [c], []) h1
  | _ => .stuck
def rngW (lo : Int) (n : Nat) : List W := (List.range n).map fun (k : Nat) => W.int (lo + k)
def rOK (i : Int) : Prop := -(2 ^ 62) ≤ i ∧ i < 2 ^ 62
instance (i : Int) : Decidable (rOK i) := inferInstanceAs (Decidable (_ ∧ _))
def iRng1 (d : D) : I := fun ρ h => (d ρ h).bind fun w h1 => match w with
  | .int j => if rOK j then .ok (rngW 0 j.toNat, []) h1 else .stuck
  | _ => .stuck
def iRng2 (d e : D) : I := fun ρ h => (d ρ h).bind fun w h1 => (e ρ h1).bind fun v h2 => match w, v with
  | .int i, .int j => if rOK i ∧ rOK j then .ok (rngW i (j - i).toNat, []) h2 else .stuck
  | _, _ => .stuck
def enumW (k : Nat) : List W → List W
  | [] => []
  | w :: ws => .tup [.int k, w] :: enumW (k + 1) ws
def iEnum (d : D) : I := fun ρ h => (d ρ h).bind fun w h1 => match lstOf w h1 with
  | some ws => .ok (enumW 0 ws, [(w, ws)]) h1
  | none => .stuck
def iRev (d : D) : I := fun ρ h => (d ρ h).bind fun w h1 => match lstOf w h1 with
  | some ws => .ok (ws.reverse, [(w, ws)]) h1
  | none => .stuck
def zipW : List W → List W → List W
  | a :: as, b :: bs => .tup [a, b] :: zipW as bs
  | _, _ => []
def iZip (d e : D) : I := fun ρ h => (d ρ h).bind fun w h1 => (e ρ h1).bind fun v h2 => match lstOf w h2, lstOf v h2 with
  | some ws, some vs => .ok (zipW ws vs, [(w, ws), (v, vs)]) h2
  | _, _ => .stuck

/-- while: at most n turns -/
def whileF (t : T) (b : Sm) : Nat → Env → Hs → Out
  | 0, _, _ => .stuck
  | n + 1, ρ, h => onR (t ρ h) ρ fun c h1 => if c = true then (match b ρ h1 with
      | .nx ρ2 h2 => whileF t b n ρ2 h2
      | .ct ρ2 h2 => whileF t b n ρ2 h2
      | .bk ρ2 h2 => .nx ρ2 h2
      | r => r) else .nx ρ h1
@[irreducible] def FUEL : Nat := 2 ^ 20000
def sWhile (t : T) (b : Sm) : Sm := whileF t b FUEL

/-- a comprehension's turns: the list so far stands at D -/
def compL (g : List (W × List W)) (dl : Nat) (tg : Tg) (t : T) (e : D) : List W → Env → Hs → Res W
  | [], _, h => if stays g h = true then .ok (.ref dl) h else .stuck
  | w :: ws, ρ, h => if stays g h = true then match tg.run w ρ with
      | some ρ1 => (t ρ1 h).noX.bind fun c h1 => if c = true then (e ρ1 h1).noX.bind fun y h2 => match h2[dl]? with
          | some (.lst acc) => if acc.length < bigL then compL g dl tg t e ws ρ (h2.set dl (.lst (acc ++ [y]))) else .stuck
          | _ => .stuck
        else compL g dl tg t e ws ρ h1
      | none => .stuck
    else .stuck
def wipe (ρ : Env) : List Nat → Env
  | [] => ρ
  | i :: is => (wipe ρ is).set i none
def dComp (it : I) (tg : Tg) (t : T) (e : D) (own : List Nat) : D := fun ρ h => (it ρ h).bind fun J h1 => compL J.2 h1.length tg t e J.1 (wipe ρ own) (h1 ++ [.lst []])
def tYes : T := fun _ h => .ok true h

/-! ### a def -/
def endF : Out → Res W
  | .nx _ h => .ok .non h
  | .ret w h => .ok w h
  | .exc c p _ h => .exc c p h
  | _ => .stuck
/-- ps parameters, n slots -/
def mkF (ps n : Nat) (b : Sm) : Fn := fun ws h => if ws.length = ps then endF (b (ws.map some ++ List.replicate (n - ps) none) h) else .stuck

mutual
def W.pure : W → Bool
  | .ref _ => false
  | .err => false
  | .errF _ _ => false
  | .tup ws => W.pures ws
  | .fl ws => W.pures ws
  | .obj _ _ ws => W.pures ws
  | _ => true
def W.pures : List W → Bool
  | [] => true
  | w :: ws => W.pure w && W.pures ws
end
def Pay.pure : Pay → Bool
  | none => true
  | some (_, w) => w.pure
def mapO {α β : Type} (f : α → Option β) : List α → Option (List β)
  | [] => some []
  | a :: as => (f a).bind fun b => (mapO f as).bind fun bs => some (b :: bs)
def Cell.pure : Cell → Bool
  | .lst ws => W.pures ws
  | .dct kvs => W.pures (kvs.map Prod.snd)
  | .ins _ fs => W.pures (fs.map Prod.snd)
/-- lists from n on become values -/
def fzW (h : Hs) (n : Nat) : Nat → W → Option W
  | 0, w => if w.pure = true then some w else match w with
    | .ref i => if i < n then some w else none
    | _ => none
  | d + 1, w => if w.pure = true then some w else match w with
    | .ref i => if i < n then some w else match h[i]? with
      | some (.lst ws) => (mapO (fzW h n d) ws).map .fl
      | _ => none
    | .tup ws => (mapO (fzW h n d) ws).map .tup
    | .fl ws => (mapO (fzW h n d) ws).map .fl
    | .obj c ns ws => (mapO (fzW h n d) ws).map (.obj c ns)
    | _ => none
/-- what stood ahead is as it was, or plain -/
def tame (h h' : Hs) : Bool := decide (h.length ≤ h'.length) && (List.range h.length).all fun i => decide (h'[i]? = h[i]?) || (match h'[i]? with
  | some c => c.pure
  | none => false)
/-- what a call has made becomes a value; what nobody holds is forgotten: h, the store ahead of it -/
def gc (h : Hs) : Res W → Res W
  | .ok w h' => if tame h h' = true then (match fzW h' h.length 60 w with
      | some w' => .ok w' (h'.take h.length)
      | none => .ok w h') else .ok w h'
  | .exc c p h' => if tame h h' = true ∧ p.pure = true then .exc c p (h'.take h.length) else .exc c p h'
  | .stuck => .stuck
/-- .. but a new list, the call's own answer, stays a list at hand -/
def gcL (h : Hs) : Res W → Res W
  | .ok (.ref i) h' => if tame h h' = true ∧ h.length ≤ i then (match h'[i]? with
      | some (.lst ws) => (match mapO (fzW (h'.set i (.dct [])) h.length 60) ws with
        | some ws' => .ok (.ref h.length) (h'.take h.length ++ [.lst ws'])
        | none => .ok (.ref i) h')
      | _ => .ok (.ref i) h') else .ok (.ref i) h'
  | .ok w h' => gc h (.ok w h')
  | .exc c p h' => gc h (.exc c p h')
  | .stuck => .stuck
def dGz (d : D) : D := fun ρ h => gc h (d ρ h)
def defF (ps n : Nat) (b : Sm) : Fn := fun ws h => gc h (mkF ps n b ws h)
def defL (ps n : Nat) (b : Sm) : Fn := fun ws h => gcL h (mkF ps n b ws h)

/-! ### operations -/
def mulOK (i j : Int) : Prop := i.natAbs.log2 + j.natAbs.log2 < 1000000 ∨ i.natAbs < 2 ^ 64 ∨ j.natAbs < 2 ^ 64
instance (i j : Int) : Decidable (mulOK i j) := inferInstanceAs (Decidable (_ ∨ _))
def limbs (i : Int) : Nat := if i == 0 then 0 else i.natAbs.log2 / 30 + 1
def divOK (i j : Int) : Prop := j ≠ 0 ∧ (decide (limbs j > 300) && decide (limbs i > limbs j + 150)) = false
instance (i j : Int) : Decidable (divOK i j) := inferInstanceAs (Decidable (_ ∧ _))
def powOK (i j : Int) : Prop := 0 ≤ j ∧ j ≤ 1000000 ∧ i.natAbs < 2 ^ 64
instance (i j : Int) : Decidable (powOK i j) := inferInstanceAs (Decidable (_ ∧ _))
def oAdd : W → W → Hs → Res W
  | .int i, .int j, h => .ok (.int (i + j)) h
  | .str a, .str b, h => if a.length + b.length ≤ bigL then .ok (.str (a ++ b)) h else .stuck
  | .ref i, .ref j, h => match h[i]?, h[j]? with
    | some (.lst a), some (.lst b) => if a.length + b.length ≤ bigL then newL (a ++ b) h else .stuck
    | _, _ => .stuck
  | .fl a, .fl b, h => if a.length + b.length ≤ bigL then newL (a ++ b) h else .stuck
  | .fl a, .ref j, h => match h[j]? with
    | some (.lst b) => if a.length + b.length ≤ bigL then newL (a ++ b) h else .stuck
    | _ => .stuck
  | .ref i, .fl b, h => match h[i]? with
    | some (.lst a) => if a.length + b.length ≤ bigL then newL (a ++ b) h else .stuck
    | _ => .stuck
  | .tup a, .tup b, h => if a ≠ [] ∧ b ≠ [] ∧ a.length + b.length ≤ bigL then .ok (.tup (a ++ b)) h else .stuck
  | _, _, _ => .stuck
def oAddI : W → W → Hs → Res W
  | .int i, .int j, h => .ok (.int (i + j)) h
  | _, _, _ => .stuck
def oSub : W → W → Hs → Res W
  | .int i, .int j, h => .ok (.int (i - j)) h
  | _, _, _ => .stuck
def oMul : W → W → Hs → Res W
  | .int i, .int j, h => if mulOK i j then .ok (.int (i * j)) h else .stuck
  | .str s, .int i, h => if 1 ≤ i ∧ i ≤ 1000 ∧ s.length ≤ 1000 then .ok (.str (List.replicate i.toNat s).flatten) h else .stuck
  | _, _, _ => .stuck
def oDiv : W → W → Hs → Res W
  | .int i, .int j, h => if divOK i j then .ok (.int (i.fdiv j)) h else .stuck
  | _, _, _ => .stuck
def oMod : W → W → Hs → Res W
  | .int i, .int j, h => if j ≠ 0 then .ok (.int (i.fmod j)) h else .stuck
  | _, _, _ => .stuck
def oPow : W → W → Hs → Res W
  | .int i, .int j, h => if powOK i j then .ok (.int (i ^ j.toNat)) h else .stuck
  | _, _, _ => .stuck
def oNeg : W → Hs → Res W
  | .int i, h => .ok (.int (-i)) h
  | _, _ => .stuck
/-- texts by their signs -/
def strLt : List Nat → List Nat → Bool
  | _, [] => false
  | [], _ :: _ => true
  | a :: as, b :: bs => decide (a < b) || (a == b && strLt as bs)
def oLt : W → W → Hs → Res W
  | .int i, .int j, h => .ok (.bl (decide (i < j))) h
  | .str a, .str b, h => .ok (.bl (decide (a < b))) h
  | _, _, _ => .stuck
def oLe : W → W → Hs → Res W
  | .int i, .int j, h => .ok (.bl (decide (i ≤ j))) h
  | _, _, _ => .stuck
def oGt : W → W → Hs → Res W
  | .int i, .int j, h => .ok (.bl (decide (j < i))) h
  | .str a, .str b, h => .ok (.bl (decide (b < a))) h
  | _, _, _ => .stuck
def oGe : W → W → Hs → Res W
  | .int i, .int j, h => .ok (.bl (decide (j ≤ i))) h
  | .str a, .str b, h => .ok (.bl (!decide (a < b))) h
  | _, _, _ => .stuck
def oIsN : W → Hs → Res W
  | w, h => .ok (.bl (decide (w = .non))) h
def oNotN : W → Hs → Res W
  | w, h => .ok (.bl (!decide (w = .non))) h

/-- data at hand, to some depth -/
inductive Da where
  | non | bl (b : Bool) | int (i : Int) | str (s : List Nat) | lst (ds : List Da) | tup (ds : List Da)
mutual
def Da.eqB : Da → Da → Bool
  | .non, .non => true
  | .bl a, .bl b => a == b
  | .bl a, .int j => (if a then 1 else 0) == j
  | .int i, .bl b => i == (if b then 1 else 0)
  | .int a, .int b => a == b
  | .str a, .str b => a == b
  | .lst a, .lst b => Da.eqL a b
  | .tup a, .tup b => Da.eqL a b
  | _, _ => false
def Da.eqL : List Da → List Da → Bool
  | [], [] => true
  | a :: as, b :: bs => Da.eqB a b && Da.eqL as bs
  | _, _ => false
end
/-- n: how deep it is read -/
def daOf (h : Hs) : Nat → W → Option Da
  | _, .non => some .non
  | _, .bl b => some (.bl b)
  | _, .int i => some (.int i)
  | _, .str s => some (.str s)
  | n + 1, .tup ws => (mapO (daOf h n) ws).map Da.tup
  | n + 1, .fl ws => (mapO (daOf h n) ws).map Da.lst
  | n + 1, .ref i => match h[i]? with
    | some (.lst ws) => (mapO (daOf h n) ws).map Da.lst
    | _ => none
  | _, _ => none
end PF
namespace PF
/-! ### subscripts, slices, built-ins -/
def ixW (n : Nat) (i : Int) : Option Nat := if 0 ≤ i then (if i < n then some i.toNat else none) else if -(n : Int) ≤ i then some (i + n).toNat else none
def atW {α : Type} (xs : List α) (i : Int) : Option α := (ixW xs.length i).bind fun j => xs[j]?
def okO (o : Option W) (h : Hs) : Res W := match o with
  | some w => .ok w h
  | none => .stuck
@[simp] theorem okO_some (w : W) (h : Hs) : okO (some w) h = .ok w h := (rfl)
def lookK (kvs : List (Key × W)) (k : Key) : Option W := match kvs with
  | [] => none
  | (k', w) :: r => if k' = k then some w else lookK r k
def putK (kvs : List (Key × W)) (k : Key) (w : W) : List (Key × W) :=
  if (kvs.any fun p => decide (p.1 = k)) = true then kvs.map (fun p => if p.1 = k then (p.1, w) else p) else kvs ++ [(k, w)]
def keyOf : W → Option Key
  | .int i => some (.inl i)
  | .str s => some (.inr s)
  | _ => none
def oIx : W → W → Hs → Res W
  | .tup ws, .int i, h => okO (atW ws i) h
  | .fl ws, .int i, h => okO (atW ws i) h
  | .ref r, .int i, h => match h[r]? with
    | some (.lst ws) => okO (atW ws i) h
    | some (.dct kvs) => okO (lookK kvs (.inl i)) h
    | _ => .stuck
  | .ref r, .str z, h => match h[r]? with
    | some (.dct kvs) => okO (lookK kvs (.inr z)) h
    | _ => .stuck
  | .str s, .int i, h => if s.length ≤ bigL then okO ((atW s i).map fun c => .str [c]) h else .stuck
  | _, _, _ => .stuck
def dctOf (w : W) (h : Hs) : Option (List (Key × W)) := match w with
  | .ref i => match h[i]? with
    | some (.dct kvs) => some kvs
    | _ => none
  | _ => none
def sIxW (n d : Nat) : Option Int → Nat
  | none => d
  | some v => if v < 0 then (v + (n : Int)).toNat else min v.toNat n
def cutW {α : Type} (xs : List α) (lo hi : Option Int) : List α := (xs.drop (sIxW xs.length 0 lo)).take (sIxW xs.length xs.length hi - sIxW xs.length 0 lo)
def oSl : W → Option Int → Option Int → Hs → Res W
  | .tup ws, lo, hi, h => .ok (.tup (cutW ws lo hi)) h
  | .fl ws, lo, hi, h => newL (cutW ws lo hi) h
  | .ref r, lo, hi, h => match h[r]? with
    | some (.lst ws) => newL (cutW ws lo hi) h
    | _ => .stuck
  | .str s, lo, hi, h => if s.length ≤ bigL then .ok (.str (cutW s lo hi)) h else .stuck
  | _, _, _, _ => .stuck
abbrev P := Env → Hs → Res (Option Int)
def pNo : P := fun _ h => .ok none h
def pAt (d : D) : P := fun ρ h => (d ρ h).bind fun w h1 => match w with
  | .int i => .ok (some i) h1
  | _ => .stuck
def dSl (a : D) (lo hi : P) : D := fun ρ h => (a ρ h).bind fun x h1 => (lo ρ h1).bind fun l h2 => (hi ρ h2).bind fun u h3 => oSl x l u h3
def bAbs : Fn
  | [.int i], h => .ok (.int (if i < 0 then -i else i)) h
  | _, _ => .stuck
def bMax2 : Fn
  | [.int i, .int j], h => .ok (.int (if j > i then j else i)) h
  | _, _ => .stuck
def bMin2 : Fn
  | [.int i, .int j], h => .ok (.int (if j < i then j else i)) h
  | _, _ => .stuck
def bLen : Fn
  | [.tup ws], h => .ok (.int ws.length) h
  | [.fl ws], h => .ok (.int ws.length) h
  | [.str s], h => if s.length ≤ bigL then .ok (.int s.length) h else .stuck
  | [.ref r], h => match h[r]? with
    | some (.lst ws) => .ok (.int ws.length) h
    | some (.dct kvs) => .ok (.int kvs.length) h
    | _ => .stuck
  | _, _ => .stuck
def bDivmod : Fn
  | [.int i, .int j], h => if divOK i j then .ok (.tup [.int (i.fdiv j), .int (i.fmod j)]) h else .stuck
  | _, _ => .stuck
def bInt : Fn
  | [.int i], h => .ok (.int i) h
  | [.bl b], h => .ok (.int (if b then 1 else 0)) h
  | _, _ => .stuck
def bList : Fn
  | [w], h => match seqOf w h with
    | some ws => newL ws h
    | none => .stuck
  | _, _ => .stuck
def bTuple : Fn
  | [.tup ws], h => .ok (.tup ws) h
  | [w], h => match lstOf w h with
    | some ws => .ok (.tup ws) h
    | none => .stuck
  | _, _ => .stuck
def intsOf : List W → Option (List Int)
  | [] => some []
  | .int i :: ws => (intsOf ws).map fun is => i :: is
  | _ :: _ => none
def blsOf : List W → Option (List Bool)
  | [] => some []
  | .bl i :: ws => (blsOf ws).map fun is => i :: is
  | _ :: _ => none
def strsOf : List W → Option (List (List Nat))
  | [] => some []
  | .str i :: ws => (strsOf ws).map fun is => i :: is
  | _ :: _ => none
def bSum : Fn
  | [w], h => match (lstOf w h).bind intsOf with
    | some is => .ok (.int is.sum) h
    | none => .stuck
  | _, _ => .stuck
def bAll : Fn
  | [w], h => match (lstOf w h).bind blsOf with
    | some is => .ok (.bl (is.all id)) h
    | none => .stuck
  | _, _ => .stuck
def bAny : Fn
  | [w], h => match (lstOf w h).bind blsOf with
    | some is => .ok (.bl (is.any id)) h
    | none => .stuck
  | _, _ => .stuck
def keysS : List (Key × W) → Option (List (List Nat))
  | [] => some []
  | (.inr s, _) :: r => (keysS r).map fun ss => s :: ss
  | _ :: _ => none
def keysI : List (Key × W) → Option (List Int)
  | [] => some []
  | (.inl s, _) :: r => (keysI r).map fun ss => s :: ss
  | _ :: _ => none
def sortI (is : List Int) : List Int := is.mergeSort fun a b => decide (a ≤ b)
/-- texts by their signs -/
def sortS (ss : List (List Nat)) : List (List Nat) := ss.mergeSort fun a b => decide (a ≤ b)
/-- the greatest of a list that holds one -/
def maxI : List Int → Int
  | [] => 0
  | i :: is => is.foldl max i
def minI : List Int → Int
  | [] => 0
  | i :: is => is.foldl min i
def bMax : Fn
  | [w], h => match (lstOf w h).bind intsOf with
    | some (i :: is) => .ok (.int (maxI (i :: is))) h
    | _ => .stuck
  | _, _ => .stuck
def bMin : Fn
  | [w], h => match (lstOf w h).bind intsOf with
    | some (i :: is) => .ok (.int (minI (i :: is))) h
    | _ => .stuck
  | _, _ => .stuck
/-- two texts -/
abbrev Pr := List Nat × List Nat
def lePr (a b : Pr) : Bool := decide (a.1 < b.1) || (decide (a.1 = b.1) && decide (a.2 ≤ b.2))
def sortP (ps : List Pr) : List Pr := ps.mergeSort lePr
def prW (p : Pr) : W := .tup [.str p.1, .str p.2]
def asPr : W → Option Pr
  | .tup [.str a, .str b] => some (a, b)
  | _ => none
def prsOf : List W → Option (List Pr)
  | [] => some []
  | w :: ws => (asPr w).bind fun p => (prsOf ws).map fun ps => p :: ps
def bSorted : Fn
  | [w], h => match dctOf w h with
    | some kvs => (match keysS kvs with
      | some ss => if ss.length < 64 then newL ((sortS ss).map .str) h else .stuck
      | none => match keysI kvs with
        | some is => if is.length < 64 then newL ((sortI is).map .int) h else .stuck
        | none => .stuck)
    | none => match (lstOf w h).bind strsOf with
      | some ss => newL ((sortS ss).map .str) h
      | none => match (lstOf w h).bind prsOf with
        | some ps => newL ((sortP ps).map prW) h
        | none => .stuck
  | _, _ => .stuck
/-- each once -/
def nub {α : Type} [DecidableEq α] : List α → List α
  | [] => []
  | a :: l => if a ∈ l then nub l else a :: nub l
/-- sorted(set(l)) -/
def bSortSet : Fn
  | [w], h => match lstOf w h with
    | some ws => if ws.length < 4000 then (match strsOf ws with
      | some ss => newL ((sortS (nub ss)).map .str) h
      | none => match intsOf ws with
        | some is => newL ((sortI (nub is)).map .int) h
        | none => .stuck) else .stuck
    | none => .stuck
  | _, _ => .stuck
/-- len(set(l)) -/
def bLenSet : Fn
  | [w], h => match lstOf w h with
    | some ws => if ws.length < 4000 then (match strsOf ws with
      | some ss => .ok (.int (nub ss).length) h
      | none => match intsOf ws with
        | some is => .ok (.int (nub is).length) h
        | none => .stuck) else .stuck
    | none => .stuck
  | _, _ => .stuck
/-- max(l, default=d) -/
def oMaxD : W → W → Hs → Res W
  | w, .int d, h => match (lstOf w h).bind intsOf with
    | some (i :: is) => .ok (.int (maxI (i :: is))) h
    | some [] => .ok (.int d) h
    | none => .stuck
  | _, _, _ => .stuck
/-! ### kinds -/
inductive Ty where
  | int | bool | str | tuple | list
  deriving DecidableEq
/-- isinstance(w, kind) -/
def isTy (t : Ty) (w : W) (h : Hs) : Option Bool := match w with
  | .non => some false
  | .bl _ => some (decide (t = .bool) || decide (t = .int))
  | .int _ => some (decide (t = .int))
  | .str _ => some (decide (t = .str))
  | .tup _ => some (decide (t = .tuple))
  | .fl _ => some (decide (t = .list))
  | .ref i => match h[i]? with
    | some (.lst _) => some (decide (t = .list))
    | some (.dct _) => some false
    | _ => none
  | .err => none
  | .errF _ _ => none
  | .obj _ _ _ => none
def oIs (t : Ty) : W → Hs → Res W := fun w h => match isTy t w h with
  | some b => .ok (.bl b) h
  | none => .stuck
/-! ### equality, membership -/
/-- how deep lists stand in lists -/
def deepest : Nat := 60
def eqW (w u : W) (h : Hs) : Option Bool := match daOf h deepest w, daOf h deepest u with
  | some d, some e => some (Da.eqB d e)
  | _, _ => none
def oEq : W → W → Hs → Res W := fun w u h => match eqW w u h with
  | some b => .ok (.bl b) h
  | none => .stuck
def oNe : W → W → Hs → Res W := fun w u h => match eqW w u h with
  | some b => .ok (.bl (!b)) h
  | none => .stuck
/-! ### try .. except -/
/-- behind an except suite of the form «except X as e»: it has returned a plain value -/
def onT (h : Hs) : Out → Out
  | .ret w h' => if w.pure = true ∧ tame h h' = true then .ret w (h'.take h.length) else .stuck
  | _ => .stuck
/-- the caught error as a value: with its field, if it bears one -/
def errOf : Pay → W
  | none => .err
  | some (f, w) => .errF f w
/-- try .. except X as e (slot i), the suite returns; L: the classes that may come; tk: which of them X takes; su: the suite, by the class -/
def sTryA (L : List Nat) (i : Nat) (tk : Nat → Bool) (b : Sm) (su : Nat → Sm) : Sm := fun ρ h => match b ρ h with
  | .exc c p ρ1 h1 => if c ∈ L ∧ i < ρ1.length then (if tk c = true then onT h1 (su c (ρ1.set i (some (errOf p))) h1) else .exc c p ρ1 h1) else .stuck
  | r => r
/-- try .. except X -/
def sTryO (L : List Nat) (tk : Nat → Bool) (b : Sm) (su : Sm) : Sm := fun ρ h => match b ρ h with
  | .exc c p ρ1 h1 => if c ∈ L then (if tk c = true then (match su ρ1 h1 with
      | .exc _ _ _ _ => .stuck
      | r => r) else .exc c p ρ1 h1) else .stuck
  | r => r
/-- isinstance of the caught error at slot i: the answer is known by its class -/
def dEr (i : Nat) (b : Bool) : D := fun ρ h => match ρ[i]? with
  | some (some .err) => .ok (.bl b) h
  | some (some (.errF _ _)) => .ok (.bl b) h
  | _ => .stuck
/-- the field of the caught error at slot i -/
def dFd (i : Nat) (f : List Nat) : D := fun ρ h => match ρ[i]? with
  | some (some (.errF g w)) => if g = f then .ok w h else .stuck
  | _ => .stuck
/-! ### methods, stores, membership -/
inductive Kd where
  | lst | str | dct
  deriving DecidableEq
def kdOf (w : W) (h : Hs) : Option Kd := match w with
  | .fl _ => some .lst
  | .str _ => some .str
  | .ref i => match h[i]? with
    | some (.lst _) => some .lst
    | some (.dct _) => some .dct
    | some _ => none
    | none => none
  | _ => none
def dMeth (k : Kd) (m : W → List W → Hs → Res W) (a : D) (as : As) : D := fun ρ h => (a ρ h).bind fun x h1 => if kdOf x h1 = some k then (as ρ h1).bind fun xs h2 => m x xs h2 else .stuck
def mAppend : W → List W → Hs → Res W
  | .ref i, [w], h => match h[i]? with
    | some (.lst ws) => if ws.length < bigL then .ok .non (h.set i (.lst (ws ++ [w]))) else .stuck
    | _ => .stuck
  | _, _, _ => .stuck
def mClear : W → List W → Hs → Res W
  | .ref i, [], h => match h[i]? with
    | some (.lst _) => .ok .non (h.set i (.lst []))
    | _ => .stuck
  | _, _, _ => .stuck
def mPop : W → List W → Hs → Res W
  | .ref i, [], h => match h[i]? with
    | some (.lst ws) => match ws[ws.length - 1]? with
      | some w => .ok w (h.set i (.lst ws.dropLast))
      | none => .stuck
    | _ => .stuck
  | _, _, _ => .stuck
def mExtend : W → List W → Hs → Res W
  | .ref i, [.fl b], h => match h[i]? with
    | some (.lst a) => if a.length + b.length ≤ bigL then .ok .non (h.set i (.lst (a ++ b))) else .stuck
    | _ => .stuck
  | .ref i, [.ref j], h => match h[i]?, h[j]? with
    | some (.lst a), some (.lst b) => if a.length + b.length ≤ bigL then .ok .non (h.set i (.lst (a ++ b))) else .stuck
    | _, _ => .stuck
  | _, _, _ => .stuck
def stL (w u y : W) (h : Hs) : Option Hs := match w with
  | .ref i => match h[i]? with
    | some (.lst ws) => (match u with
      | .int k => (ixW ws.length k).map fun j => h.set i (.lst (ws.set j y))
      | _ => none)
    | some (.dct kvs) => (keyOf u).bind fun k => if kvs.length < bigL then some (h.set i (.dct (putK kvs k y))) else none
    | _ => none
  | _ => none
/-- an item of a list at hand, from its start -/
def ixL (x y : W) (h : Hs) : Option W := match x, y with
  | .ref i, .int k => match h[i]? with
    | some (.lst ws) => if 0 ≤ k then ws[k.toNat]? else none
    | _ => none
  | _, _ => none
/-- xs[i] op= e -/
def sAugX (o : W → W → Hs → Res W) (da db de : D) : Sm := fun ρ h => onR (da ρ h) ρ fun x h1 => onR (db ρ h1) ρ fun y h2 => match ixL x y h2 with
  | some u => onR (de ρ h2) ρ fun v h4 => onR (o u v h4) ρ fun z h5 => match stL x y z h5 with
    | some h6 => .nx ρ h6
    | none => .stuck
  | none => .stuck
/-- {} -/
def dDct0 : D := fun _ h => .ok (.ref h.length) (h ++ [.dct []])
def mGet : W → List W → Hs → Res W
  | .ref i, [u, y], h => match h[i]? with
    | some (.dct kvs) => (match keyOf u with
      | some k => .ok ((lookK kvs k).getD y) h
      | none => .stuck)
    | _ => .stuck
  | _, _, _ => .stuck
/-- i & 1 -/
def oBitAnd : W → W → Hs → Res W
  | .int i, .int j, h => if j = 1 then .ok (.int (i % 2)) h else .stuck
  | _, _, _ => .stuck
/-- i >> j -/
def oShr : W → W → Hs → Res W
  | .int i, .int j, h => if 0 ≤ j then .ok (.int (i / 2 ^ j.toNat)) h else .stuck
  | _, _, _ => .stuck
/-- a, b = x, y with two names -/
def sPar (i j : Nat) (as : As) : Sm := fun ρ h => onR (as ρ h) ρ fun ws h1 => match ws with
  | [v, w] => if i < ρ.length ∧ j < ρ.length then .nx ((ρ.set i (some v)).set j (some w)) h1 else .stuck
  | _ => .stuck
def mStarts : W → List W → Hs → Res W
  | .str a, [.str b], h => .ok (.bl (decide (b.length ≤ a.length) && (a.take b.length == b))) h
  | _, _, _ => .stuck
/-- == of flat values -/
def eqF : W → W → Option Bool
  | .non, .non => some true
  | .bl a, .bl b => some (a == b)
  | .bl a, .int b => some ((if a then 1 else 0) == b)
  | .int a, .bl b => some (a == (if b then 1 else 0))
  | .int a, .int b => some (a == b)
  | .str a, .str b => some (a == b)
  | .non, .bl _ => some false
  | .non, .int _ => some false
  | .non, .str _ => some false
  | .bl _, .non => some false
  | .bl _, .str _ => some false
  | .int _, .non => some false
  | .int _, .str _ => some false
  | .str _, .non => some false
  | .str _, .bl _ => some false
  | .str _, .int _ => some false
  | _, _ => none
def flatF : W → Bool
  | .non => true
  | .bl _ => true
  | .int _ => true
  | .str _ => true
  | _ => false
def inF (w : W) : List W → Option Bool
  | [] => some false
  | u :: us => match eqF u w, inF w us with
    | some a, some b => some (a || b)
    | _, _ => none
def anyD (d : Da) (ds : List Da) : Bool := ds.any fun z => Da.eqB z d
/-- is it in there -/
def inA (w u : W) (h : Hs) : Option Bool := match dctOf u h with
  | some kvs => (keyOf w).map fun k => (lookK kvs k).isSome
  | none => if flatF w = true then (seqOf u h).bind (inF w) else match daOf h deepest w, daOf h deepest u with
    | some d, some (.lst ds) => some (anyD d ds)
    | _, _ => none
def oIn : W → W → Hs → Res W
  | .str [c], .str z, h => .ok (.bl (decide (c ∈ z))) h
  | w, u, h => match inA w u h with
    | some b => .ok (.bl b) h
    | none => .stuck
def oNin : W → W → Hs → Res W
  | .str [c], .str z, h => .ok (.bl (!decide (c ∈ z))) h
  | w, u, h => match inA w u h with
    | some b => .ok (.bl (!b)) h
    | none => .stuck
def dRev (a : D) : D := fun ρ h => (a ρ h).bind fun w h1 => match lstOf w h1 with
  | some ws => newL ws.reverse h1
  | none => .stuck
end PF
namespace PF
/-! ### evaluation lemmas -/
section
variable {ρ : Env} {h : Hs} {w : W} {i : Nat}
@[simp] theorem dV_0 {o : Env} : dV 0 (some w :: o) h = .ok w h := (rfl)
@[simp] theorem dV_1 {a : Option W} {o : Env} : dV 1 (a :: some w :: o) h = .ok w h := (rfl)
@[simp] theorem dV_2 {a b : Option W} {o : Env} : dV 2 (a :: b :: some w :: o) h = .ok w h := (rfl)
@[simp] theorem dV_3 {a b c : Option W} {o : Env} : dV 3 (a :: b :: c :: some w :: o) h = .ok w h := (rfl)
@[simp] theorem dV_4 {a b c d : Option W} {o : Env} : dV 4 (a :: b :: c :: d :: some w :: o) h = .ok w h := (rfl)
@[simp] theorem dV_5 {a b c d e : Option W} {o : Env} : dV 5 (a :: b :: c :: d :: e :: some w :: o) h = .ok w h := (rfl)
@[simp] theorem dV_6 {a b c d e f : Option W} {o : Env} : dV 6 (a :: b :: c :: d :: e :: f :: some w :: o) h = .ok w h := (rfl)
@[simp] theorem dV_7 {a b c d e f g : Option W} {o : Env} : dV 7 (a :: b :: c :: d :: e :: f :: g :: some w :: o) h = .ok w h := (rfl)
@[simp] theorem dV_8 {a b c d e f g k : Option W} {o : Env} : dV 8 (a :: b :: c :: d :: e :: f :: g :: k :: some w :: o) h = .ok w h := (rfl)
@[simp] theorem dV_9 {a b c d e f g k l : Option W} {o : Env} : dV 9 (a :: b :: c :: d :: e :: f :: g :: k :: l :: some w :: o) h = .ok w h := (rfl)
@[simp] theorem dV_10 {a b c d e f g k l m : Option W} {o : Env} : dV 10 (a :: b :: c :: d :: e :: f :: g :: k :: l :: m :: some w :: o) h = .ok w h := (rfl)
@[simp] theorem dV_11 {a b c d e f g k l m n : Option W} {o : Env} : dV 11 (a :: b :: c :: d :: e :: f :: g :: k :: l :: m :: n :: some w :: o) h = .ok w h := (rfl)
@[simp] theorem dV_12 {a b c d e f g k l m n p : Option W} {o : Env} : dV 12 (a :: b :: c :: d :: e :: f :: g :: k :: l :: m :: n :: p :: some w :: o) h = .ok w h := (rfl)
@[simp] theorem dC_e : dC w ρ h = .ok w h := (rfl)
variable {a b c : D} {as : As} {t u : T} {o o' : W → W → Hs → Res W} {o1 : W → Hs → Res W}
@[simp] theorem dBin_e : dBin o a b ρ h = (a ρ h).bind fun x h1 => (b ρ h1).bind fun y h2 => o x y h2 := (rfl)
@[simp] theorem dUn_e : dUn o1 a ρ h = (a ρ h).bind fun x h1 => o1 x h1 := (rfl)
@[simp] theorem dAnd_e : dAnd a b ρ h = (a ρ h).bind fun x h1 => asB x fun c => if c = true then b ρ h1 else .ok (.bl false) h1 := (rfl)
@[simp] theorem dOr_e : dOr a b ρ h = (a ρ h).bind fun x h1 => asB x fun c => if c = true then .ok (.bl true) h1 else b ρ h1 := (rfl)
@[simp] theorem dNot_e : dNot a ρ h = (a ρ h).bind fun x h1 => asB x fun c => .ok (.bl (!c)) h1 := (rfl)
@[simp] theorem tVal_e : tVal a ρ h = (a ρ h).bind fun x h1 => asB x fun c => .ok c h1 := (rfl)
@[simp] theorem tAnd_e : tAnd t u ρ h = (t ρ h).bind fun c h1 => if c = true then u ρ h1 else .ok false h1 := (rfl)
@[simp] theorem tOr_e : tOr t u ρ h = (t ρ h).bind fun c h1 => if c = true then .ok true h1 else u ρ h1 := (rfl)
@[simp] theorem tNot_e : tNot t ρ h = (t ρ h).bind fun c h1 => .ok (!c) h1 := (rfl)
@[simp] theorem tYes_e : tYes ρ h = .ok true h := (rfl)
@[simp] theorem dIf_e : dIf t a b ρ h = (t ρ h).bind fun c h1 => if c = true then a ρ h1 else b ρ h1 := (rfl)
@[simp] theorem aNil_e : aNil ρ h = .ok [] h := (rfl)
@[simp] theorem aCons_e : aCons a as ρ h = (a ρ h).bind fun x h1 => (as ρ h1).bind fun xs h2 => .ok (x :: xs) h2 := (rfl)
@[simp] theorem dTup_e : dTup as ρ h = (as ρ h).bind fun xs h1 => if xs.length ≤ bigL then .ok (.tup xs) h1 else .stuck := (rfl)
@[simp] theorem dLst_e : dLst as ρ h = (as ρ h).bind fun xs h1 => if xs.length ≤ bigL then newL xs h1 else .stuck := (rfl)
@[simp] theorem dCall_e {f : Fn} : dCall f as ρ h = (as ρ h).bind fun xs h1 => f xs h1 := (rfl)
@[simp] theorem dSl_e {l r : P} : dSl a l r ρ h = (a ρ h).bind fun x h1 => (l ρ h1).bind fun l h2 => (r ρ h2).bind fun u h3 => oSl x l u h3 := (rfl)
@[simp] theorem pNo_e : pNo ρ h = .ok none h := (rfl)
theorem pAt_e : pAt a ρ h = (a ρ h).bind fun w h1 => match w with
  | .int i => .ok (some i) h1
  | _ => .stuck := rfl
@[simp] theorem pAt_int {i : Int} : pAt (dC (.int i)) ρ h = .ok (some i) h := (rfl)
@[simp] theorem big_lit0 : (0 ≤ bigL) = True := by decide
@[simp] theorem big_lit1 : (1 ≤ bigL) = True := by simp [bigL]
@[simp] theorem big_lit2 : (2 ≤ bigL) = True := by simp [bigL]
@[simp] theorem big_lit3 : (3 ≤ bigL) = True := by simp [bigL]
@[simp] theorem big_lit4 : (4 ≤ bigL) = True := by simp [bigL]
@[simp] theorem big_lit6 : (6 ≤ bigL) = True := by simp [bigL]
@[simp] theorem big_add1 : (0 + 1 ≤ bigL) = True := by simp [bigL]
/-! statements -/
variable {s r : Sm}
theorem sSeq_e : sSeq s r ρ h = match s ρ h with
  | .nx ρ1 h1 => r ρ1 h1
  | x => x := rfl
def Out.then (x : Out) (k : Env → Hs → Out) : Out := match x with
  | .nx ρ h => k ρ h
  | x => x
@[simp] theorem sSeq_t : sSeq s r ρ h = (s ρ h).then r := (rfl)
theorem seq_nx {ρ1 : Env} {h1 : Hs} (e : s ρ h = .nx ρ1 h1) : sSeq s r ρ h = r ρ1 h1 := by rw [sSeq_t, e]; rfl
@[simp] theorem then_nx {k : Env → Hs → Out} : (Out.nx ρ h).then k = k ρ h := (rfl)
@[simp] theorem then_ret {k : Env → Hs → Out} : (Out.ret w h).then k = .ret w h := (rfl)
@[simp] theorem then_bk {k : Env → Hs → Out} : (Out.bk ρ h).then k = .bk ρ h := (rfl)
@[simp] theorem then_ct {k : Env → Hs → Out} : (Out.ct ρ h).then k = .ct ρ h := (rfl)
@[simp] theorem then_exc {c : Nat} {p : Pay} {k : Env → Hs → Out} : (Out.exc c p ρ h).then k = .exc c p ρ h := (rfl)
@[simp] theorem sNx_e : sNx ρ h = .nx ρ h := (rfl)
@[simp] theorem sExp_e : sExp a ρ h = onR (a ρ h) ρ fun _ h1 => .nx ρ h1 := (rfl)
@[simp] theorem sRet_e : sRet a ρ h = onR (a ρ h) ρ fun w h1 => .ret w h1 := (rfl)
@[simp] theorem sRetN_e : sRetN ρ h = .ret .non h := (rfl)
@[simp] theorem sBrk_e : sBrk ρ h = .bk ρ h := (rfl)
@[simp] theorem sCnt_e : sCnt ρ h = .ct ρ h := (rfl)
@[simp] theorem sRaise_e {c : Nat} : sRaise c ρ h = .exc c none ρ h := (rfl)
@[simp] theorem sAsg_e {g : Tg} : sAsg a g ρ h = onR (a ρ h) ρ fun w h1 => onO (g.run w ρ) fun ρ1 => .nx ρ1 h1 := (rfl)
@[simp] theorem sIf_e : sIf t s r ρ h = onR (t ρ h) ρ fun c h1 => if c = true then s ρ h1 else r ρ h1 := (rfl)
@[simp] theorem run_n {w : W} : (Tg.n i).run w ρ = if i < ρ.length then some (ρ.set i (some w)) else none := by rw [Tg.run]
@[simp] theorem run_t {gs : List Tg} {ws : List W} : (Tg.t gs).run (.tup ws) ρ = Tg.runs gs ws ρ := by rw [Tg.run]
@[simp] theorem runs_nil : Tg.runs [] [] ρ = some ρ := by rw [Tg.runs]
@[simp] theorem runs_cons {g : Tg} {gs : List Tg} {ws : List W} : Tg.runs (g :: gs) (w :: ws) ρ = (Tg.run g w ρ).bind fun ρ1 => Tg.runs gs ws ρ1 := by rw [Tg.runs]
@[simp] theorem sFor_e {it : I} {g : Tg} : sFor it g s ρ h = onR (it ρ h) ρ fun J h1 => forL J.2 g s J.1 ρ h1 := (rfl)
@[simp] theorem endF_nx : endF (.nx ρ h) = .ok .non h := (rfl)
@[simp] theorem endF_ret : endF (.ret w h) = .ok w h := (rfl)
@[simp] theorem endF_exc {c : Nat} {p : Pay} : endF (.exc c p ρ h) = .exc c p h := (rfl)
/-! what is left behind a call -/
@[simp] theorem tame_self' (h : Hs) : tame h h = true := by
  unfold tame
  simp
@[simp] theorem tame_app (h e : Hs) : tame h (h ++ e) = true := by
  unfold tame
  simp
  intro i hi
  left
  rw [List.getElem?_append_left hi]
/-- a plain cell in the store's place b -/
theorem tame_set {h h' : Hs} {b : Nat} {c : Cell} (hc : c.pure = true) (t : tame h h' = true) : tame h (h'.set b c) = true := by
  unfold tame at t ⊢
  simp only [Bool.and_eq_true, decide_eq_true_eq, List.all_eq_true, List.mem_range, List.length_set, Bool.or_eq_true] at t ⊢
  refine ⟨t.1, fun i hi => ?_⟩
  by_cases e : b = i
  · subst e
    have : b < h'.length := by omega
    rw [List.getElem?_set, if_pos rfl, if_pos this]
    exact .inr hc
  · rw [List.getElem?_set, if_neg e]
    exact t.2 i hi
theorem tame_get {h h' : Hs} (t : tame h h' = true) : h.length ≤ h'.length ∧ ∀ (i : Nat) (c : Cell), i < h.length → h'[i]? = some c → h[i]? = some c ∨ c.pure = true := by
  unfold tame at t
  rw [Bool.and_eq_true, decide_eq_true_eq, List.all_eq_true] at t
  refine ⟨t.1, fun i c hi hc => ?_⟩
  have := t.2 i (List.mem_range.mpr hi)
  rw [hc] at this
  rcases Bool.or_eq_true _ _ |>.mp this with z | z
  · exact .inl (of_decide_eq_true z).symm
  · exact .inr z
theorem tame_mk {h h' : Hs} (hl : h.length ≤ h'.length) (q : ∀ (i : Nat) (c : Cell), i < h.length → h'[i]? = some c → h[i]? = some c ∨ c.pure = true) : tame h h' = true := by
  unfold tame
  simp only [Bool.and_eq_true, decide_eq_true_eq, List.all_eq_true, List.mem_range, Bool.or_eq_true]
  refine ⟨hl, fun i hi => ?_⟩
  rw [List.getElem?_eq_getElem (by omega)]
  rcases q i _ hi (List.getElem?_eq_getElem (by omega)) with z | z
  · exact .inl z.symm
  · exact .inr z
theorem tame_trans {h h1 h2 : Hs} (a : tame h h1 = true) (b : tame h1 h2 = true) : tame h h2 = true := by
  obtain ⟨l1, q1⟩ := tame_get a
  obtain ⟨l2, q2⟩ := tame_get b
  refine tame_mk (by omega) fun i c hi hc => ?_
  rcases q2 i c (by omega) hc with z | z
  · exact q1 i c hi z
  · exact .inr z
theorem tame_take {h h' : Hs} {n : Nat} (t : tame h h' = true) (hn : h.length ≤ n) : tame h (h'.take n) = true := by
  obtain ⟨l1, q1⟩ := tame_get t
  refine tame_mk (by rw [List.length_take]; omega) fun i c hi hc => ?_
  rw [List.getElem?_take, if_pos (by omega)] at hc
  exact q1 i c hi hc
theorem tame_push {h h' : Hs} (t : tame h h' = true) (e : Hs) : tame h (h' ++ e) = true := tame_trans t (tame_app h' e)
theorem fz_pure {h : Hs} {n d : Nat} {w : W} (hw : w.pure = true) : fzW h n d w = some w := by
  cases d <;> simp [fzW, hw]
theorem fz_self {h : Hs} : ∀ (d : Nat) (w w' : W), fzW h h.length d w = some w' → w' = w
  | 0, w, w', e => by
    unfold fzW at e
    split at e
    · cases e; rfl
    · split at e
      · split at e
        · cases e; rfl
        · cases e
      · cases e
  | d + 1, w, w', e => by
    have all : ∀ (ws ws' : List W), mapO (fzW h h.length d) ws = some ws' → ws' = ws := by
      intro ws
      induction ws with
      | nil => intro ws' e; cases e; rfl
      | cons w ws ih =>
        intro ws' e
        rw [mapO] at e
        obtain ⟨b, e1, e⟩ := Option.bind_eq_some_iff.mp e
        obtain ⟨bs, e2, e⟩ := Option.bind_eq_some_iff.mp e
        cases e
        rw [fz_self d _ _ e1, ih _ e2]
    unfold fzW at e
    split at e
    · cases e; rfl
    · split at e
      · rename_i i _
        split at e
        · cases e; rfl
        · rename_i hi
          rw [List.getElem?_eq_none (by omega)] at e
          cases e
      · obtain ⟨ws', e1, e2⟩ := Option.map_eq_some_iff.mp e
        subst e2
        rw [all _ _ e1]
      · obtain ⟨ws', e1, e2⟩ := Option.map_eq_some_iff.mp e
        subst e2
        rw [all _ _ e1]
      · obtain ⟨ws', e1, e2⟩ := Option.map_eq_some_iff.mp e
        subst e2
        rw [all _ _ e1]
      · cases e
@[simp] theorem gc_same (w : W) : gc h (.ok w h) = .ok w h := by
  unfold gc
  dsimp only
  rw [if_pos (tame_self' h)]
  cases e : fzW h h.length 60 w with
  | none => rfl
  | some w' =>
    dsimp only
    rw [fz_self _ _ _ e, List.take_length]
@[simp] theorem gc_same_exc (c : Nat) (p : Pay) : gc h (.exc c p h) = .exc c p h := by
  unfold gc
  simp
theorem gc_pureT {w : W} {h' : Hs} (hw : w.pure = true) (t : tame h h' = true) : gc h (.ok w h') = .ok w (h'.take h.length) := by
  unfold gc
  dsimp only
  rw [if_pos t, fz_pure hw]
theorem gc_pure {w : W} {e : Hs} (hw : w.pure = true) : gc h (.ok w (h ++ e)) = .ok w h := by
  rw [gc_pureT hw (tame_app h e), List.take_left]
@[simp] theorem gc_ext_bl (b : Bool) (e : Hs) : gc h (.ok (.bl b) (h ++ e)) = .ok (.bl b) h := gc_pure rfl
@[simp] theorem gc_ext_int (b : Int) (e : Hs) : gc h (.ok (.int b) (h ++ e)) = .ok (.int b) h := gc_pure rfl
@[simp] theorem gc_ext_str (b : List Nat) (e : Hs) : gc h (.ok (.str b) (h ++ e)) = .ok (.str b) h := gc_pure rfl
@[simp] theorem gc_ext_non (e : Hs) : gc h (.ok .non (h ++ e)) = .ok .non h := gc_pure rfl
theorem gc_exc {c : Nat} {p : Pay} {e : Hs} (hp : p.pure = true) : gc h (.exc c p (h ++ e)) = .exc c p h := by
  unfold gc
  dsimp only
  rw [if_pos ⟨tame_app h e, hp⟩, List.take_left]
/-- the answer is a new list -/
theorem gc_lstT {h' : Hs} {i : Nat} {ws : List W} (t : tame h h' = true) (hi : h.length ≤ i) (e : h'[i]? = some (.lst ws)) (hp : W.pures ws = true) : gc h (.ok (.ref i) h') = .ok (.fl ws) (h'.take h.length) := by
  have q : ∀ ws : List W, W.pures ws = true → mapO (fzW h' h.length 59) ws = some ws := by
    intro ws
    induction ws with
    | nil => intro _; rfl
    | cons w ws ih =>
      intro hp
      rw [W.pures, Bool.and_eq_true] at hp
      rw [mapO, fz_pure hp.1, ih hp.2]
      rfl
  have hn : ¬ i < h.length := by omega
  unfold gc
  dsimp only
  rw [if_pos t]
  unfold fzW
  simp [hn, e, q ws hp, W.pure]
theorem gc_lst {e : Hs} {i : Nat} {ws : List W} (hi : h.length ≤ i) (ei : e[i - h.length]? = some (.lst ws)) (hp : W.pures ws = true) : gc h (.ok (.ref i) (h ++ e)) = .ok (.fl ws) h := by
  rw [gc_lstT (tame_app h e) hi (by rw [List.getElem?_append_right hi]; exact ei) hp, List.take_left]
theorem gc_newL {ws : List W} (hp : W.pures ws = true) : gc h (newL ws h) = .ok (.fl ws) h := gc_lst (Nat.le_refl _) (by simp) hp
theorem gcL_lst {e : Hs} {i : Nat} {ws : List W} (hi : h.length ≤ i) (ei : e[i - h.length]? = some (.lst ws)) (hp : W.pures ws = true) : gcL h (.ok (.ref i) (h ++ e)) = .ok (.ref h.length) (h ++ [.lst ws]) := by
  have q : ∀ (g : Hs) (ws : List W), W.pures ws = true → mapO (fzW g h.length 60) ws = some ws := by
    intro g ws
    induction ws with
    | nil => intro _; rfl
    | cons w ws ih =>
      intro hp
      rw [W.pures, Bool.and_eq_true] at hp
      rw [mapO, fz_pure hp.1, ih hp.2]
      rfl
  unfold gcL
  dsimp only
  rw [if_pos ⟨tame_app h e, hi⟩, List.getElem?_append_right hi, ei]
  dsimp only
  rw [q _ _ hp, List.take_left]
theorem dGz_e {d : D} : dGz d ρ h = gc h (d ρ h) := (rfl)
theorem defF_e {ps n : Nat} {ws : List W} (hl : ws.length = ps) : defF ps n s ws h = gc h (endF (s (ws.map some ++ List.replicate (n - ps) none) h)) := by
  unfold defF mkF
  rw [if_pos hl]
end
/-! ### operations -/
section
variable {h : Hs} {i j : Int}
@[simp] theorem oAdd_i : oAdd (.int i) (.int j) h = .ok (.int (i + j)) h := (rfl)
@[simp] theorem oAddI_i : oAddI (.int i) (.int j) h = .ok (.int (i + j)) h := (rfl)
@[simp] theorem oSub_i : oSub (.int i) (.int j) h = .ok (.int (i - j)) h := (rfl)
theorem oMul_i (hm : mulOK i j) : oMul (.int i) (.int j) h = .ok (.int (i * j)) h := if_pos hm
theorem oDiv_i (hm : divOK i j) : oDiv (.int i) (.int j) h = .ok (.int (i.fdiv j)) h := if_pos hm
theorem oMod_i (hm : j ≠ 0) : oMod (.int i) (.int j) h = .ok (.int (i.fmod j)) h := if_pos hm
theorem oPow_i (hm : powOK i j) : oPow (.int i) (.int j) h = .ok (.int (i ^ j.toNat)) h := if_pos hm
@[simp] theorem oNeg_i : oNeg (.int i) h = .ok (.int (-i)) h := (rfl)
@[simp] theorem oLt_i : oLt (.int i) (.int j) h = .ok (.bl (decide (i < j))) h := (rfl)
@[simp] theorem oLe_i : oLe (.int i) (.int j) h = .ok (.bl (decide (i ≤ j))) h := (rfl)
@[simp] theorem oGt_i : oGt (.int i) (.int j) h = .ok (.bl (decide (j < i))) h := (rfl)
@[simp] theorem oGe_s {a b : List Nat} : oGe (.str a) (.str b) h = .ok (.bl (!decide (a < b))) h := (rfl)
@[simp] theorem oGe_i : oGe (.int i) (.int j) h = .ok (.bl (decide (j ≤ i))) h := (rfl)
@[simp] theorem oEq_i : oEq (.int i) (.int j) h = .ok (.bl (i == j)) h := (rfl)
@[simp] theorem oNe_i : oNe (.int i) (.int j) h = .ok (.bl (!(i == j))) h := (rfl)
@[simp] theorem bAbs_i : bAbs [.int i] h = .ok (.int (if i < 0 then -i else i)) h := (rfl)
theorem bDivmod_i (hm : divOK i j) : bDivmod [.int i, .int j] h = .ok (.tup [.int (i.fdiv j), .int (i.fmod j)]) h := if_pos hm
/-- a positive divisor -/
theorem oDivP (h0 : 0 < j) (hl : limbs j ≤ 300) : oDiv (.int i) (.int j) h = .ok (.int (i / j)) h := by
  rw [oDiv_i ⟨by omega, by simp; intro z; omega⟩, Int.fdiv_eq_ediv_of_nonneg i (by omega)]
theorem oModP (h0 : 0 < j) : oMod (.int i) (.int j) h = .ok (.int (i % j)) h := by
  rw [oMod_i (by omega), Int.fmod_eq_emod_of_nonneg i (by omega)]
theorem limbs_of {j : Int} (hj : j.natAbs < 2 ^ 9000) : limbs j ≤ 300 := by
  unfold limbs
  split
  · omega
  · rename_i hz
    have hz : j ≠ 0 := by simpa using hz
    have h1 : j.natAbs.log2 < 9000 := (Nat.log2_lt (by omega)).mpr hj
    omega
theorem limbs_small {j : Int} {n : Nat} (hj : j.natAbs < 2 ^ n) (hn : n ≤ 9000) : limbs j ≤ 300 := limbs_of (Nat.lt_of_lt_of_le hj (Nat.pow_le_pow_right (by omega) hn))
theorem mulOK_of {i j : Int} {a b : Nat} (hi : i.natAbs < 2 ^ a) (hj : j.natAbs < 2 ^ b) (hs : a + b ≤ 900000) : mulOK i j := by
  unfold mulOK
  have key : ∀ (x : Nat) (n : Nat), x < 2 ^ n → x.log2 ≤ n := fun x n hx => by
    rcases Nat.eq_zero_or_pos x with z | z
    · subst z; exact Nat.zero_le _
    · exact Nat.le_of_lt ((Nat.log2_lt (by omega)).mpr hx)
  have h1 := key _ _ hi
  have h2 := key _ _ hj
  exact .inl (by omega)
theorem mulOK_l {i j : Int} (h : i.natAbs < 2 ^ 64) : mulOK i j := .inr (.inl h)
theorem mulOK_r {i j : Int} (h : j.natAbs < 2 ^ 64) : mulOK i j := .inr (.inr h)
@[simp] theorem pure_int (i : Int) : (W.int i).pure = true := (rfl)
@[simp] theorem pure_bl (i : Bool) : (W.bl i).pure = true := (rfl)
@[simp] theorem pure_non : W.non.pure = true := (rfl)
@[simp] theorem pure_str (s : List Nat) : (W.str s).pure = true := (rfl)
@[simp] theorem pure_tup (ws : List W) : (W.tup ws).pure = W.pures ws := by rw [W.pure]
@[simp] theorem pure_fl (ws : List W) : (W.fl ws).pure = W.pures ws := by rw [W.pure]
@[simp] theorem pure_obj (c : Nat) (ns : List (List Nat)) (ws : List W) : (W.obj c ns ws).pure = W.pures ws := by rw [W.pure]
@[simp] theorem pure_ref (i : Nat) : (W.ref i).pure = false := (rfl)
@[simp] theorem pures_nil : W.pures [] = true := (rfl)
@[simp] theorem pures_cons (w : W) (ws : List W) : W.pures (w :: ws) = (w.pure && W.pures ws) := by rw [W.pures]
@[simp] theorem asB_b {α : Type} (b : Bool) (k : Bool → Res α) : asB (.bl b) k = k b := (rfl)
/-! data -/
@[simp] theorem da_int (n : Nat) (i : Int) : daOf h n (.int i) = some (.int i) := by cases n <;> rfl
@[simp] theorem da_bl (n : Nat) (i : Bool) : daOf h n (.bl i) = some (.bl i) := by cases n <;> rfl
@[simp] theorem da_str (n : Nat) (s : List Nat) : daOf h n (.str s) = some (.str s) := by cases n <;> rfl
@[simp] theorem da_non (n : Nat) : daOf h n .non = some .non := by cases n <;> rfl
@[simp] theorem da_tup (n : Nat) (ws : List W) : daOf h (n + 1) (.tup ws) = (mapO (daOf h n) ws).map Da.tup := (rfl)
@[simp] theorem da_fl (n : Nat) (ws : List W) : daOf h (n + 1) (.fl ws) = (mapO (daOf h n) ws).map Da.lst := (rfl)
@[simp] theorem mapO_nil {α β : Type} (f : α → Option β) : mapO f [] = some [] := (rfl)
@[simp] theorem mapO_cons {α β : Type} (f : α → Option β) (a : α) (as : List α) : mapO f (a :: as) = (f a).bind fun b => (mapO f as).bind fun bs => some (b :: bs) := (rfl)
mutual
theorem Da.eqB_refl : ∀ d : Da, Da.eqB d d = true
  | .non => rfl
  | .bl b => by simp [Da.eqB]
  | .int i => by simp [Da.eqB]
  | .str s => by simp [Da.eqB]
  | .lst ds => by rw [Da.eqB]; exact Da.eqL_refl ds
  | .tup ds => by rw [Da.eqB]; exact Da.eqL_refl ds
theorem Da.eqL_refl : ∀ ds : List Da, Da.eqL ds ds = true
  | [] => rfl
  | d :: ds => by rw [Da.eqL, Da.eqB_refl d, Da.eqL_refl ds]; rfl
end
theorem oEq_self {w : W} {d : Da} (e : daOf h deepest w = some d) : oEq w w h = .ok (.bl true) h := by
  simp [oEq, eqW, e, Da.eqB_refl]
end
/-! ### loops, lists -/
theorem atW_nat {α : Type} {xs : List α} {k : Nat} {x : α} (e : xs[k]? = some x) : atW xs (k : Int) = some x := by
  have hk : k < xs.length := (List.getElem?_eq_some_iff.mp e).1
  unfold atW ixW
  rw [if_pos (by omega), if_pos (by omega)]
  show xs[(k : Int).toNat]? = _
  rw [Int.toNat_natCast, e]
theorem oIx_ref {h : Hs} {r k : Nat} {ws : List W} {w : W} (hr : h[r]? = some (.lst ws)) (hk : ws[k]? = some w) : oIx (.ref r) (.int (k : Int)) h = .ok w h := by
  simp [oIx, hr, atW_nat hk]
theorem bLen_ref {h : Hs} {r : Nat} {ws : List W} (hr : h[r]? = some (.lst ws)) : bLen [.ref r] h = .ok (.int ws.length) h := by
  simp [bLen, hr]
theorem cut_first {α : Type} (ws : List α) (n : Nat) (hl : ws.length ≤ n) : cutW ws none (some (n : Int)) = ws := by
  unfold cutW sIxW
  have e1 : ¬ ((n : Int) < 0) := by omega
  simp only [if_neg e1, Int.toNat_natCast, Nat.sub_zero, List.drop_zero]
  rw [Nat.min_eq_right hl, List.take_length]
theorem cut_63 {α : Type} (ws : List α) (hl : ws.length ≤ 63) : cutW ws none (some 63) = ws := cut_first ws 63 hl
theorem forL_inv {g : List (W × List W)} {tg : Tg} {b : Sm} (Pv : Nat → Env → Hs → Prop) (all : List W) (hst : ∀ i ρ h, Pv i ρ h → stays g h = true)
    (step : ∀ i w ρ h, all[i]? = some w → Pv i ρ h → ∃ ρ1, tg.run w ρ = some ρ1 ∧ ((∃ ρ2 h2, b ρ1 h = .nx ρ2 h2 ∧ Pv (i + 1) ρ2 h2) ∨ ∃ ρ2 h2, b ρ1 h = .ct ρ2 h2 ∧ Pv (i + 1) ρ2 h2)) :
    ∀ (n i : Nat) (ρ : Env) (h : Hs), all.length - i = n → i ≤ all.length → Pv i ρ h → ∃ ρ' h', forL g tg b (all.drop i) ρ h = .nx ρ' h' ∧ Pv all.length ρ' h'
  | 0, i, ρ, h, hn, hi, p => by
    have e : i = all.length := by omega
    subst e
    rw [List.drop_length, forL, if_pos (hst _ _ _ p)]
    exact ⟨ρ, h, rfl, p⟩
  | n + 1, i, ρ, h, hn, hi, p => by
    have hlt : i < all.length := by omega
    rw [List.drop_eq_getElem_cons hlt, forL, if_pos (hst _ _ _ p)]
    obtain ⟨ρ1, e1, q⟩ := step i _ ρ h (List.getElem?_eq_getElem hlt) p
    rw [e1, onO_some]
    rcases q with ⟨ρ2, h2, e2, p2⟩ | ⟨ρ2, h2, e2, p2⟩
    · rw [e2]
      exact forL_inv Pv all hst step n (i + 1) ρ2 h2 (by omega) (by omega) p2
    · rw [e2]
      exact forL_inv Pv all hst step n (i + 1) ρ2 h2 (by omega) (by omega) p2
theorem forL_all {g : List (W × List W)} {tg : Tg} {b : Sm} (Pv : Nat → Env → Hs → Prop) (all : List W) (ρ : Env) (h : Hs) (p : Pv 0 ρ h) (hst : ∀ i ρ h, Pv i ρ h → stays g h = true)
    (step : ∀ i w ρ h, all[i]? = some w → Pv i ρ h → ∃ ρ1, tg.run w ρ = some ρ1 ∧ ((∃ ρ2 h2, b ρ1 h = .nx ρ2 h2 ∧ Pv (i + 1) ρ2 h2) ∨ ∃ ρ2 h2, b ρ1 h = .ct ρ2 h2 ∧ Pv (i + 1) ρ2 h2)) :
    ∃ ρ' h', forL g tg b all ρ h = .nx ρ' h' ∧ Pv all.length ρ' h' := by
  have := forL_inv Pv all hst step all.length 0 ρ h rfl (Nat.zero_le _) p
  rwa [List.drop_zero] at this
theorem rngW_get {lo : Int} {n i : Nat} {w : W} (e : (rngW lo n)[i]? = some w) : i < n ∧ w = .int (lo + i) := by
  unfold rngW at e
  rw [List.getElem?_map] at e
  by_cases hi : i < n
  · rw [List.getElem?_range hi] at e
    cases e
    exact ⟨hi, rfl⟩
  · rw [List.getElem?_eq_none (by rw [List.length_range]; omega)] at e
    cases e
theorem rngW_len (lo : Int) (n : Nat) : (rngW lo n).length = n := by simp [rngW]
theorem iRng1_e {d : D} {ρ : Env} {h h1 : Hs} {n : Nat} (e : d ρ h = .ok (.int n) h1) (hn : n < 2 ^ 60) : iRng1 d ρ h = .ok (rngW 0 n, []) h1 := by
  unfold iRng1
  rw [e, Res.bind_ok]
  have : rOK (n : Int) := ⟨by omega, by omega⟩
  simp [this]
@[simp] theorem stays_nil (h : Hs) : stays [] h = true := (rfl)
/-- what the law reckons is True -/
def LawTrue (f : Fn) : Prop := ∀ ns : List Int, ns.length ≤ 63 → ∃ h, f [.fl (ns.map PF.W.int)] [] = .ok (.bl true) h
theorem sortS_pw (ss : List (List Nat)) : (sortS ss).Pairwise (· ≤ ·) := by
  have := List.pairwise_mergeSort (le := fun a b : List Nat => decide (a ≤ b)) (fun a b c h1 h2 => decide_eq_true (List.le_trans (of_decide_eq_true h1) (of_decide_eq_true h2))) (fun a b => by
    rcases List.le_total a b with h | h
    · simp [h]
    · simp [h]) ss
  exact this.imp fun h => of_decide_eq_true h
theorem sortS_perm (ss : List (List Nat)) : (sortS ss).Perm ss := List.mergeSort_perm _ _
theorem sortS_of {ss zs : List (List Nat)} (hp : zs.Perm ss) (hs : zs.Pairwise (· ≤ ·)) : zs = sortS ss :=
  List.Perm.eq_of_pairwise (le := (· ≤ ·)) (fun _ _ _ _ h1 h2 => List.le_antisymm h1 h2) hs (sortS_pw ss) (hp.trans (sortS_perm ss).symm)
/-! ### each once -/
theorem mem_nub {α : Type} [DecidableEq α] {a : α} : ∀ {l : List α}, a ∈ nub l ↔ a ∈ l
  | [] => Iff.rfl
  | b :: l => by
    rw [nub]
    split
    · rename_i h
      rw [mem_nub (l := l), List.mem_cons]
      exact ⟨.inr, fun z => z.elim (fun e => by rw [e]; exact h) id⟩
    · rw [List.mem_cons, List.mem_cons, mem_nub (l := l)]
theorem nub_nodup {α : Type} [DecidableEq α] : ∀ l : List α, (nub l).Nodup
  | [] => List.nodup_nil
  | b :: l => by
    rw [nub]
    split
    · exact nub_nodup l
    · rename_i h
      exact List.nodup_cons.mpr ⟨fun z => h (mem_nub.mp z), nub_nodup l⟩
theorem nub_perm {α : Type} [DecidableEq α] {l m : List α} (d : m.Nodup) (e : ∀ a, a ∈ m ↔ a ∈ l) : m.Perm (nub l) :=
  (List.perm_ext_iff_of_nodup d (nub_nodup l)).mpr fun a => by rw [e, mem_nub]
theorem sortI_perm (is : List Int) : (sortI is).Perm is := List.mergeSort_perm _ _
theorem sortI_pw (is : List Int) : (sortI is).Pairwise (· ≤ ·) := by
  have := List.pairwise_mergeSort (le := fun a b : Int => decide (a ≤ b)) (fun a b c h1 h2 => decide_eq_true (Int.le_trans (of_decide_eq_true h1) (of_decide_eq_true h2))) (fun a b => by
    rcases Int.le_total a b with h | h
    · simp [h]
    · simp [h]) is
  exact this.imp fun h => of_decide_eq_true h
theorem sortI_of {is js : List Int} (hp : js.Perm is) (hs : js.Pairwise (· ≤ ·)) : js = sortI is :=
  List.Perm.eq_of_pairwise (le := (· ≤ ·)) (fun _ _ _ _ h1 h2 => Int.le_antisymm h1 h2) hs (sortI_pw is) (hp.trans (sortI_perm is).symm)
theorem nub_map {α β : Type} [DecidableEq α] [DecidableEq β] {f : α → β} (inj : ∀ a b, f a = f b → a = b) : ∀ l : List α, nub (l.map f) = (nub l).map f
  | [] => rfl
  | a :: l => by
    have e : f a ∈ l.map f ↔ a ∈ l := by
      rw [List.mem_map]
      exact ⟨fun ⟨b, hb, z⟩ => by rw [← inj _ _ z]; exact hb, fun h => ⟨a, h, rfl⟩⟩
    rw [List.map_cons, nub, nub]
    by_cases h : a ∈ l
    · rw [if_pos h, if_pos (e.mpr h)]; exact nub_map inj l
    · rw [if_neg h, if_neg fun z => h (e.mp z), List.map_cons, nub_map inj l]
theorem nub_len {α : Type} [DecidableEq α] : ∀ l : List α, (nub l).length ≤ l.length
  | [] => Nat.le_refl _
  | a :: l => by
    have := nub_len l
    rw [nub]
    split
    · rw [List.length_cons]; omega
    · rw [List.length_cons, List.length_cons]; omega
/-! ### pairs of texts, sorted -/
theorem lePr_iff {a b : Pr} : lePr a b = true ↔ a.1 < b.1 ∨ (a.1 = b.1 ∧ a.2 ≤ b.2) := by
  unfold lePr
  rw [Bool.or_eq_true, Bool.and_eq_true, decide_eq_true_eq, decide_eq_true_eq, decide_eq_true_eq]
theorem lePr_trans (a b c : Pr) (h1 : lePr a b = true) (h2 : lePr b c = true) : lePr a c = true := by
  rw [lePr_iff] at *
  rcases h1 with h1 | ⟨e1, h1⟩
  · rcases h2 with h2 | ⟨e2, h2⟩
    · exact .inl (List.lt_trans h1 h2)
    · exact .inl (by rw [← e2]; exact h1)
  · rcases h2 with h2 | ⟨e2, h2⟩
    · exact .inl (by rw [e1]; exact h2)
    · exact .inr ⟨e1.trans e2, List.le_trans h1 h2⟩
theorem lePr_of {a b : Pr} (h1 : ¬ b.1 < a.1) (h2 : a.1 < b.1 ∨ ¬ b.2 < a.2) : lePr a b = true := by
  rw [lePr_iff]
  by_cases h : a.1 < b.1
  · exact .inl h
  · exact .inr ⟨List.le_antisymm (List.not_lt.mp h1) (List.not_lt.mp h), List.not_lt.mp (h2.resolve_left h)⟩
theorem lePr_total (a b : Pr) : (lePr a b || lePr b a) = true := by
  rw [Bool.or_eq_true]
  by_cases h1 : b.1 < a.1
  · exact .inr (lePr_iff.mpr (.inl h1))
  · by_cases h2 : a.1 < b.1
    · exact .inl (lePr_iff.mpr (.inl h2))
    · have e : a.1 = b.1 := List.le_antisymm (List.not_lt.mp h1) (List.not_lt.mp h2)
      rcases List.le_total a.2 b.2 with h | h
      · exact .inl (lePr_iff.mpr (.inr ⟨e, h⟩))
      · exact .inr (lePr_iff.mpr (.inr ⟨e.symm, h⟩))
theorem lePr_anti {a b : Pr} (h1 : lePr a b = true) (h2 : lePr b a = true) : a = b := by
  rw [lePr_iff] at *
  rcases h1 with h1 | ⟨e1, h1⟩
  · rcases h2 with h2 | ⟨e2, h2⟩
    · exact absurd (List.lt_trans h1 h2) (List.lt_irrefl _)
    · rw [e2] at h1; exact absurd h1 (List.lt_irrefl _)
  · rcases h2 with h2 | ⟨e2, h2⟩
    · rw [e1] at h2; exact absurd h2 (List.lt_irrefl _)
    · exact Prod.ext e1 (List.le_antisymm h1 h2)
theorem sortP_perm (ps : List Pr) : (sortP ps).Perm ps := List.mergeSort_perm _ _
theorem sortP_pw (ps : List Pr) : (sortP ps).Pairwise fun a b => lePr a b = true := List.pairwise_mergeSort lePr_trans lePr_total ps
theorem sortP_of {ps qs : List Pr} (hp : qs.Perm ps) (hs : qs.Pairwise fun a b => lePr a b = true) : qs = sortP ps :=
  List.Perm.eq_of_pairwise (le := fun a b => lePr a b = true) (fun _ _ _ _ h1 h2 => lePr_anti h1 h2) hs (sortP_pw ps) (hp.trans (sortP_perm ps).symm)
theorem perm_map_inv {α β : Type} {f : α → β} {l m : List β} (h : l.Perm m) : ∀ ts : List α, m = ts.map f → ∃ ts' : List α, ts'.Perm ts ∧ l = ts'.map f := by
  induction h with
  | nil =>
    intro ts e
    cases ts with
    | nil => exact ⟨[], List.Perm.refl _, rfl⟩
    | cons t ts => cases e
  | cons x _ ih =>
    intro ts e
    cases ts with
    | nil => cases e
    | cons t ts =>
      rw [List.map_cons, List.cons.injEq] at e
      obtain ⟨ts', p, q⟩ := ih ts e.2
      exact ⟨t :: ts', p.cons t, by rw [List.map_cons, e.1, q]⟩
  | swap x y l =>
    intro ts e
    match ts, e with
    | t :: u :: ts, e =>
      rw [List.map_cons, List.map_cons, List.cons.injEq, List.cons.injEq] at e
      exact ⟨u :: t :: ts, .swap _ _ _, by rw [List.map_cons, List.map_cons, e.1, e.2.1, e.2.2]⟩
  | trans _ _ ih1 ih2 =>
    intro ts e
    obtain ⟨ts1, p1, q1⟩ := ih2 ts e
    obtain ⟨ts2, p2, q2⟩ := ih1 ts1 q1
    exact ⟨ts2, p2.trans p1, q2⟩
end PF
namespace PF
open PySem PySem.Spec PyProof.Rows L2
/-! ### values and the store, related -/
def sS (s : List Nat) : PySem.Str := ⟨s.toArray⟩
/-- signs as they are -/
def okS (s : List Nat) : Prop := ∀ c ∈ s, c < 1114112
instance (s : List Nat) : Decidable (okS s) := inferInstanceAs (Decidable (∀ c ∈ s, c < 1114112))
/-- a list that nobody changes -/
def SqF (K : PySem.W.Frag) (H : Hp) (a : Addr) (xs : List V) : Prop :=
  (∃ o, H a = some (.frz o (.lst xs))) ∨ ∃ (o : Obj) (its : Array Value) (n : Nat), K.lookup a = some o ∧ o.cls = .type "list" ∧ o.dict = none ∧ o.data = .seq its n ∧ its.size ≤ sizeLine ∧ Vals xs its.toList
theorem SqF.l {K : PySem.W.Frag} {H : Hp} {a : Addr} {xs : List V} (h : SqF K H a xs) : SqL K H a xs := h.elim (fun ⟨o, e⟩ => .inl (.inr ⟨o, e⟩)) .inr
/-- where the cells stand; the caught error, if one is at hand -/
structure Phi where
  f : Nat → Addr
  e : Option (Addr × Option Addr)
  c : Nat → Addr
instance : CoeFun Phi (fun _ => Nat → Addr) := ⟨Phi.f⟩
/-- where the classes stand; the caught error of the except suite that runs -/
structure Cl where
  f : Nat → Addr
  su : Option (Addr × Option Addr)
instance : CoeFun Cl (fun _ => Nat → Addr) := ⟨Cl.f⟩
/-- an instance with such a field may change -/
def mutF : PySem.Str := "trying"
def Imm : HO → Prop
  | .tup _ => True
  | .frz _ _ => True
  | .ins _ _ fs => fs.lookup mutF = none
  | .xd _ => True
  | _ => False
mutual
inductive VR (K : PySem.W.Frag) (φ : Phi) (n : Nat) (H : Hp) : W → V → Prop
  | non : VR K φ n H .non .non
  | bl (b : Bool) : VR K φ n H (.bl b) (.bl b)
  | int (i : Int) : VR K φ n H (.int i) (.int i)
  | str (s : List Nat) : okS s → VR K φ n H (.str s) (.str (sS s))
  | ref {i : Nat} : i < n → VR K φ n H (.ref i) (.ref (φ i))
  | err {a : Addr} : φ.e = some (a, none) → VR K φ n H .err (.ref a)
  | errF {a dd : Addr} {f : List Nat} {w : W} {v : V} : φ.e = some (a, some dd) → H dd = some (.xd [(sS f, v)]) → VR K φ n H w v → VR K φ n H (.errF f w) (.ref a)
  | tup {p : Addr} {vs : List V} {ws : List W} : SqT K H p vs → VRs K φ n H ws vs → VR K φ n H (.tup ws) (.ref p)
  | fl {p : Addr} {vs : List V} {ws : List W} : SqF K H p vs → VRs K φ n H ws vs → VR K φ n H (.fl ws) (.ref p)
  | obj {p dx : Addr} {c : Nat} {ns : List (List Nat)} {vs : List V} {ws : List W} : H p = some (.ins (φ.c c) dx ((ns.map sS).zip vs)) → ns.length = vs.length → ((ns.map sS).zip vs).lookup mutF = none → VRs K φ n H ws vs → VR K φ n H (.obj c ns ws) (.ref p)
inductive VRs (K : PySem.W.Frag) (φ : Phi) (n : Nat) (H : Hp) : List W → List V → Prop
  | nil : VRs K φ n H [] []
  | cons {w : W} {v : V} {ws : List W} {vs : List V} : VR K φ n H w v → VRs K φ n H ws vs → VRs K φ n H (w :: ws) (v :: vs)
end
def Keep (H H' : Hp) : Prop := ∀ p o, Imm o → H p = some o → H' p = some o
structure Ext (φ φ' : Phi) (n : Nat) : Prop where
  ix : ∀ i, i < n → φ' i = φ i
  er : φ'.e = φ.e
  cr : φ'.c = φ.c
theorem Keep.refl (H : Hp) : Keep H H := fun _ _ _ h => h
theorem Keep.trans {H H1 H2 : Hp} (a : Keep H H1) (b : Keep H1 H2) : Keep H H2 := fun p o i h => b p o i (a p o i h)
theorem Keep.tup {K : PySem.W.Frag} {H H' : Hp} (k : Keep H H') {p : Addr} {vs : List V} (h : SqT K H p vs) : SqT K H' p vs := by
  rcases h with (h | ⟨o, h⟩) | h
  · exact .inl (.inl (k _ _ trivial h))
  · exact .inl (.inr ⟨o, k _ _ trivial h⟩)
  · exact .inr h
theorem Keep.fl {K : PySem.W.Frag} {H H' : Hp} (k : Keep H H') {p : Addr} {vs : List V} (h : SqF K H p vs) : SqF K H' p vs := by
  rcases h with ⟨o, h⟩ | h
  · exact .inl ⟨o, k _ _ trivial h⟩
  · exact .inr h
theorem Ext.refl (φ : Phi) (n : Nat) : Ext φ φ n := ⟨fun _ _ => rfl, rfl, rfl⟩
theorem Ext.trans {φ φ1 φ2 : Phi} {n n1 : Nat} (a : Ext φ φ1 n) (b : Ext φ1 φ2 n1) (h : n ≤ n1) : Ext φ φ2 n := ⟨fun i hi => (b.ix i (Nat.lt_of_lt_of_le hi h)).trans (a.ix i hi), b.er.trans a.er, b.cr.trans a.cr⟩
theorem Ext.le {φ φ1 : Phi} {n m : Nat} (a : Ext φ φ1 n) (h : m ≤ n) : Ext φ φ1 m := ⟨fun i hi => a.ix i (Nat.lt_of_lt_of_le hi h), a.er, a.cr⟩
section
variable {K : PySem.W.Frag} {φ φ' : Phi} {n n' : Nat} {H H' : Hp}
mutual
theorem VR.mono (e : Ext φ φ' n) (l : n ≤ n') (k : Keep H H') : ∀ {w : W} {v : V}, VR K φ n H w v → VR K φ' n' H' w v
  | _, _, .non => .non
  | _, _, .bl b => .bl b
  | _, _, .int i => .int i
  | _, _, .str s o => .str s o
  | _, _, .ref (i := i) h => by
    rw [← e.ix i h]
    exact .ref (Nat.lt_of_lt_of_le h l)
  | _, _, .err h => .err (e.er.trans h)
  | _, _, .errF h x r => .errF (e.er.trans h) (k _ _ trivial x) (VR.mono e l k r)
  | _, _, .tup q r => .tup (k.tup q) (VRs.mono e l k r)
  | _, _, .fl q r => .fl (k.fl q) (VRs.mono e l k r)
  | _, _, .obj q d m r => .obj (by rw [e.cr]; exact k _ _ m q) d m (VRs.mono e l k r)
theorem VRs.mono (e : Ext φ φ' n) (l : n ≤ n') (k : Keep H H') : ∀ {ws : List W} {vs : List V}, VRs K φ n H ws vs → VRs K φ' n' H' ws vs
  | _, _, .nil => .nil
  | _, _, .cons r t => .cons (VR.mono e l k r) (VRs.mono e l k t)
end
theorem VRs.length : ∀ {ws : List W} {vs : List V}, VRs K φ n H ws vs → ws.length = vs.length
  | _, _, .nil => rfl
  | _, _, .cons _ t => by rw [List.length_cons, List.length_cons, VRs.length t]
theorem VRs.get : ∀ {ws : List W} {vs : List V} {i : Nat} {w : W}, VRs K φ n H ws vs → ws[i]? = some w → ∃ v, vs[i]? = some v ∧ VR K φ n H w v
  | _, _, _, _, .nil, e => by simp at e
  | _, _, 0, _, .cons r _, e => by simp at e; subst e; exact ⟨_, rfl, r⟩
  | _, _, i + 1, w, .cons _ t, e => by
    obtain ⟨v, h1, h2⟩ := VRs.get (i := i) (w := w) t (by simpa using e)
    exact ⟨v, by simpa using h1, h2⟩
theorem VRs.getV : ∀ {ws : List W} {vs : List V} {i : Nat} {v : V}, VRs K φ n H ws vs → vs[i]? = some v → ∃ w, ws[i]? = some w ∧ VR K φ n H w v
  | _, _, _, _, .nil, e => by simp at e
  | _, _, 0, _, .cons r _, e => by simp at e; subst e; exact ⟨_, rfl, r⟩
  | _, _, i + 1, w, .cons _ t, e => by
    obtain ⟨v, h1, h2⟩ := VRs.getV (i := i) (v := w) t (by simpa using e)
    exact ⟨v, by simpa using h1, h2⟩
theorem VRs.append : ∀ {ws ws' : List W} {vs vs' : List V}, VRs K φ n H ws vs → VRs K φ n H ws' vs' → VRs K φ n H (ws ++ ws') (vs ++ vs')
  | _, _, _, _, .nil, s => s
  | _, _, _, _, .cons r t, s => .cons r (VRs.append t s)
theorem VRs.set {w : W} {v : V} (r : VR K φ n H w v) : ∀ {ws : List W} {vs : List V} (i : Nat), VRs K φ n H ws vs → VRs K φ n H (ws.set i w) (vs.set i v)
  | _, _, _, .nil => .nil
  | _, _, 0, .cons _ t => .cons r t
  | _, _, i + 1, .cons q t => .cons q (VRs.set r i t)
theorem VRs.take : ∀ {ws : List W} {vs : List V} (m : Nat), VRs K φ n H ws vs → VRs K φ n H (ws.take m) (vs.take m)
  | _, _, 0, _ => .nil
  | _, _, _ + 1, .nil => .nil
  | _, _, m + 1, .cons r t => .cons r (VRs.take m t)
theorem VRs.drop : ∀ {ws : List W} {vs : List V} (m : Nat), VRs K φ n H ws vs → VRs K φ n H (ws.drop m) (vs.drop m)
  | _, _, 0, r => r
  | _, _, _ + 1, .nil => .nil
  | _, _, m + 1, .cons _ t => VRs.drop m t
theorem VRs.snoc {ws : List W} {vs : List V} {w : W} {v : V} (t : VRs K φ n H ws vs) (r : VR K φ n H w v) : VRs K φ n H (ws ++ [w]) (vs ++ [v]) := t.append (.cons r .nil)
theorem VRs.dropLast : ∀ {ws : List W} {vs : List V}, VRs K φ n H ws vs → VRs K φ n H ws.dropLast vs.dropLast := fun {ws vs} t => by
  rw [List.dropLast_eq_take, List.dropLast_eq_take, t.length]
  exact t.take _
theorem VRs.reverse : ∀ {ws : List W} {vs : List V}, VRs K φ n H ws vs → VRs K φ n H ws.reverse vs.reverse
  | _, _, .nil => .nil
  | _, _, .cons r t => by
    rw [List.reverse_cons, List.reverse_cons]
    exact (VRs.reverse t).snoc r

/-! ### refs below a bound -/
mutual
/-- refs below n, no caught error -/
inductive Bd (n : Nat) : W → Prop
  | non : Bd n .non
  | bl (b : Bool) : Bd n (.bl b)
  | int (i : Int) : Bd n (.int i)
  | str (s : List Nat) : Bd n (.str s)
  | ref {i : Nat} : i < n → Bd n (.ref i)
  | tup {ws : List W} : Bds n ws → Bd n (.tup ws)
  | fl {ws : List W} : Bds n ws → Bd n (.fl ws)
  | obj {c : Nat} {ns : List (List Nat)} {ws : List W} : Bds n ws → Bd n (.obj c ns ws)
inductive Bds (n : Nat) : List W → Prop
  | nil : Bds n []
  | cons {w : W} {ws : List W} : Bd n w → Bds n ws → Bds n (w :: ws)
end
mutual
theorem VR.bd (he : φ.e = none) : ∀ {w : W} {v : V}, VR K φ n H w v → Bd n w
  | _, _, .non => .non
  | _, _, .bl b => .bl b
  | _, _, .int i => .int i
  | _, _, .str s _ => .str s
  | _, _, .ref h => .ref h
  | _, _, .err h => by rw [he] at h; cases h
  | _, _, .errF h _ _ => by rw [he] at h; cases h
  | _, _, .tup _ r => .tup (VRs.bd he r)
  | _, _, .fl _ r => .fl (VRs.bd he r)
  | _, _, .obj _ _ _ r => .obj (VRs.bd he r)
theorem VRs.bd (he : φ.e = none) : ∀ {ws : List W} {vs : List V}, VRs K φ n H ws vs → Bds n ws
  | _, _, .nil => .nil
  | _, _, .cons r t => .cons (VR.bd he r) (VRs.bd he t)
end
mutual
theorem VR.cut (hf : ∀ i, i < n → φ' i = φ i) (hc : φ'.c = φ.c) : ∀ {w : W} {v : V}, VR K φ n' H w v → Bd n w → VR K φ' n H w v
  | _, _, .non, _ => .non
  | _, _, .bl b, _ => .bl b
  | _, _, .int i, _ => .int i
  | _, _, .str s o, _ => .str s o
  | _, _, .ref _, .ref h => by rw [← hf _ h]; exact .ref h
  | _, _, .tup q r, .tup b => .tup q (VRs.cut hf hc r b)
  | _, _, .fl q r, .fl b => .fl q (VRs.cut hf hc r b)
  | _, _, .obj q d m r, .obj b => .obj (by rw [hc]; exact q) d m (VRs.cut hf hc r b)
theorem VRs.cut (hf : ∀ i, i < n → φ' i = φ i) (hc : φ'.c = φ.c) : ∀ {ws : List W} {vs : List V}, VRs K φ n' H ws vs → Bds n ws → VRs K φ' n H ws vs
  | _, _, .nil, _ => .nil
  | _, _, .cons r t, .cons b c => .cons (VR.cut hf hc r b) (VRs.cut hf hc t c)
end
mutual
theorem Bd.pure : ∀ {w : W}, w.pure = true → Bd n w
  | .non, _ => .non
  | .bl b, _ => .bl b
  | .int i, _ => .int i
  | .str s, _ => .str s
  | .ref i, h => by simp [W.pure] at h
  | .err, h => by simp [W.pure] at h
  | .errF _ _, h => by simp [W.pure] at h
  | .tup ws, h => .tup (Bds.pure (by simpa [W.pure] using h))
  | .fl ws, h => .fl (Bds.pure (by simpa [W.pure] using h))
  | .obj c ns ws, h => .obj (Bds.pure (by simpa [W.pure] using h))
theorem Bds.pure : ∀ {ws : List W}, W.pures ws = true → Bds n ws
  | [], _ => .nil
  | w :: ws, h => by
    rw [W.pures, Bool.and_eq_true] at h
    exact .cons (Bd.pure h.1) (Bds.pure h.2)
end
end

/-! ### the store -/
def keyV : Key → L2.Key
  | .inl i => .inl i
  | .inr s => .inr (sS s)
def okK : Key → Prop
  | .inl _ => True
  | .inr s => okS s
def KR (K : PySem.W.Frag) (φ : Phi) (n : Nat) (H : Hp) : List (Key × W) → List (L2.Key × V) → Prop := Paired fun p q => (q.1 = keyV p.1 ∧ okK p.1) ∧ VR K φ n H p.2 q.2
def FR (K : PySem.W.Frag) (φ : Phi) (n : Nat) (H : Hp) : List (List Nat × W) → List (PySem.Str × V) → Prop := Paired fun p q => q.1 = sS p.1 ∧ VR K φ n H p.2 q.2
def CR (K : PySem.W.Frag) (cls : Cl) (φ : Phi) (n : Nat) (H : Hp) (a : Addr) : Cell → Prop
  | .lst ws => ∃ vs, H a = some (.lst vs) ∧ VRs K φ n H ws vs
  | .dct kvs => ∃ ks, H a = some (.dK ks) ∧ KR K φ n H kvs ks
  | .ins c fs => ∃ dx gs, (H a = some (.ins (cls c) dx gs) ∧ gs.lookup mutF ≠ none) ∧ FR K φ n H fs gs
structure Cells (K : PySem.W.Frag) (cls : Cl) (φ : Phi) (h : Hs) (H : Hp) : Prop where
  inj : ∀ i j, i < h.length → j < h.length → φ i = φ j → i = j
  noe : φ.e = cls.su
  nof : φ.c = cls.f
  cell : ∀ i c, h[i]? = some c → CR K cls φ h.length H (φ i) c
def Slots (K : PySem.W.Frag) (φ : Phi) (n : Nat) (H : Hp) (ρ : Env) (σ : L2.St) : Prop :=
  ρ.length = σ.length ∧ ∀ (i : Nat) (w : W), ρ[i]? = some (some w) → ∃ v, σ[i]? = some (some v) ∧ VR K φ n H w v
section
variable {K : PySem.W.Frag} {cls : Cl} {φ φ' : Phi} {n n' : Nat} {H H' : Hp} {h : Hs} {ρ : Env} {σ : L2.St}
theorem Slots.mono (s : Slots K φ n H ρ σ) (e : Ext φ φ' n) (l : n ≤ n') (k : Keep H H') : Slots K φ' n' H' ρ σ :=
  ⟨s.1, fun i w hw => by
    obtain ⟨v, h1, h2⟩ := s.2 i w hw
    exact ⟨v, h1, h2.mono e l k⟩⟩
theorem Slots.set (s : Slots K φ n H ρ σ) {i : Nat} {w : W} {v : V} (r : VR K φ n H w v) : Slots K φ n H (ρ.set i (some w)) (σ.set i (some v)) := by
  refine ⟨by rw [List.length_set, List.length_set, s.1], fun j u hu => ?_⟩
  rw [List.getElem?_set] at hu
  rw [List.getElem?_set]
  by_cases e : i = j
  · rw [if_pos e] at hu ⊢
    split at hu
    · rename_i hl
      rw [if_pos (by rw [← s.1]; exact hl)]
      cases hu
      exact ⟨v, rfl, r⟩
    · cases hu
  · rw [if_neg e] at hu ⊢
    exact s.2 j u hu
theorem wipe_slots (s : Slots K φ n H ρ σ) : ∀ (own : List Nat), Slots K φ n H (PF.wipe ρ own) (L2.wipe σ own)
  | [] => s
  | i :: is => by
    have q := wipe_slots s is
    refine ⟨by rw [PF.wipe, L2.wipe, List.length_set, List.length_set, q.1], fun j u hu => ?_⟩
    rw [PF.wipe, List.getElem?_set] at hu
    rw [L2.wipe, List.getElem?_set]
    by_cases e : i = j
    · rw [if_pos e] at hu
      split at hu <;> cases hu
    · rw [if_neg e] at hu ⊢
      exact q.2 j u hu
theorem KR.mono {kvs : List (Key × W)} {ks : List (L2.Key × V)} (e : Ext φ φ' n) (l : n ≤ n') (k : Keep H H') (r : KR K φ n H kvs ks) : KR K φ' n' H' kvs ks := Paired.mapP r fun _ _ z => ⟨z.1, z.2.mono e l k⟩
theorem FR.mono {kvs : List (List Nat × W)} {ks : List (PySem.Str × V)} (e : Ext φ φ' n) (l : n ≤ n') (k : Keep H H') (r : FR K φ n H kvs ks) : FR K φ' n' H' kvs ks := Paired.mapP r fun _ _ z => ⟨z.1, z.2.mono e l k⟩
/-- a cell, when the heap changes elsewhere -/
theorem CR.mono {a a' : Addr} {c : Cell} (e : Ext φ φ' n) (l : n ≤ n') (k : Keep H H') (ha : a' = a) (hs : ∀ o, H a = some o → H' a = some o) (r : CR K cls φ n H a c) : CR K cls φ' n' H' a' c := by
  subst ha
  cases c with
  | lst ws => obtain ⟨vs, h1, h2⟩ := r; exact ⟨vs, hs _ h1, h2.mono e l k⟩
  | dct kvs => obtain ⟨vs, h1, h2⟩ := r; exact ⟨vs, hs _ h1, h2.mono e l k⟩
  | ins c fs => obtain ⟨dx, vs, h1, h2⟩ := r; exact ⟨dx, vs, ⟨hs _ h1.1, h1.2⟩, h2.mono e l k⟩

/-- a new object at p -/
theorem keep_new {p : Addr} {o : HO} (hp : H p = none) : Keep H (upd H p o) := fun q u _ r => by
  rw [upd_ne (ne_of_none r hp)]
  exact r
/-- the object at a, no tuple, is changed -/
theorem keep_set {a : Addr} {o u : HO} (ha : H a = some u) (hu : ¬ Imm u) : Keep H (upd H a o) := fun q v i r => by
  have : q ≠ a := by
    rintro rfl
    rw [ha] at r
    cases r
    exact hu i
  rw [upd_ne this]
  exact r
theorem CR.has {a : Addr} {c : Cell} (r : CR K cls φ n H a c) : ∃ o, H a = some o ∧ ¬ Imm o := by
  cases c with
  | lst ws => obtain ⟨vs, h1, _⟩ := r; exact ⟨_, h1, fun z => z⟩
  | dct ws => obtain ⟨vs, h1, _⟩ := r; exact ⟨_, h1, fun z => z⟩
  | ins c ws => obtain ⟨dx, vs, h1, _⟩ := r; exact ⟨_, h1.1, fun z => h1.2 z⟩
theorem Cells.has (C : Cells K cls φ h H) {i : Nat} (hi : i < h.length) : ∃ o, H (φ i) = some o ∧ ¬ Imm o := (C.cell i _ (List.getElem?_eq_getElem hi)).has
theorem Cells.ne_new (C : Cells K cls φ h H) {p : Addr} (hp : H p = none) {i : Nat} (hi : i < h.length) : φ i ≠ p := by
  obtain ⟨o, e, _⟩ := C.has hi
  exact ne_of_none e hp
/-- an address more -/
def put (φ : Phi) (n : Nat) (p : Addr) : Phi := ⟨fun i => if i = n then p else φ i, φ.e, φ.c⟩
theorem put_ext (φ : Phi) (n : Nat) (p : Addr) : Ext φ (put φ n p) n := ⟨fun i hi => by
  show (if i = n then p else φ i) = φ i
  rw [if_neg (Nat.ne_of_lt hi)], rfl, rfl⟩
theorem put_at (φ : Phi) (n : Nat) (p : Addr) : put φ n p n = p := by
  show (if n = n then p else φ n) = p
  rw [if_pos rfl]
/-- a new cell -/
theorem Cells.new (C : Cells K cls φ h H) {p : Addr} {o : HO} {c : Cell} (hp : H p = none) (hc : CR K cls (put φ h.length p) (h.length + 1) (upd H p o) p c) : Cells K cls (put φ h.length p) (h ++ [c]) (upd H p o) := by
  refine ⟨fun i j hi hj e => ?_, C.noe, C.nof, fun i d hd => ?_⟩
  · rw [List.length_append, List.length_singleton] at hi hj
    by_cases e1 : i = h.length
    · by_cases e2 : j = h.length
      · rw [e1, e2]
      · rw [e1, put_at, (put_ext φ h.length p).ix j (by omega)] at e
        exact absurd e.symm (C.ne_new hp (by omega))
    · by_cases e2 : j = h.length
      · rw [e2, put_at, (put_ext φ h.length p).ix i (by omega)] at e
        exact absurd e (C.ne_new hp (by omega))
      · rw [(put_ext φ h.length p).ix i (by omega), (put_ext φ h.length p).ix j (by omega)] at e
        exact C.inj i j (by omega) (by omega) e
  · rw [List.length_append, List.length_singleton]
    by_cases hi : i < h.length
    · rw [List.getElem?_append_left hi] at hd
      exact (C.cell i d hd).mono (put_ext _ _ _) (Nat.le_succ _) (keep_new hp) ((put_ext φ h.length p).ix i hi) fun u e => by
        rw [upd_ne (ne_of_none e hp)]
        exact e
    · rw [List.getElem?_append_right (by omega)] at hd
      have e1 : i - h.length = 0 := by
        rcases Nat.eq_zero_or_pos (i - h.length) with z | z
        · exact z
        · rw [List.getElem?_eq_none (by rw [List.length_singleton]; omega)] at hd
          cases hd
      rw [e1] at hd
      cases hd
      have e2 : i = h.length := by omega
      rw [e2, put_at]
      exact hc
/-- a cell changed -/
theorem Cells.chg (C : Cells K cls φ h H) {i : Nat} {o : HO} {c : Cell} (hi : i < h.length) (hc : CR K cls φ h.length (upd H (φ i) o) (φ i) c) : Cells K cls φ (h.set i c) (upd H (φ i) o) := by
  obtain ⟨u, hu, nu⟩ := C.has hi
  refine ⟨by rw [List.length_set]; exact C.inj, C.noe, C.nof, fun j d hd => ?_⟩
  rw [List.length_set]
  rw [List.getElem?_set] at hd
  by_cases e : i = j
  · rw [if_pos e, if_pos (by omega)] at hd
    cases hd
    rw [← e]
    exact hc
  · rw [if_neg e] at hd
    have hj : j < h.length := (List.getElem?_eq_some_iff.mp hd).1
    have ne : φ j ≠ φ i := fun z => e (C.inj j i hj hi z).symm
    exact (C.cell j d hd).mono (Ext.refl _ _) (Nat.le_refl _) (keep_set hu nu) rfl fun u e => by
      rw [upd_ne ne]
      exact e
/-- a tuple more, or anything else that is no cell -/
theorem Cells.other (C : Cells K cls φ h H) {p : Addr} {o : HO} (hp : H p = none) : Cells K cls φ h (upd H p o) :=
  ⟨C.inj, C.noe, C.nof, fun i d hd => (C.cell i d hd).mono (Ext.refl _ _) (Nat.le_refl _) (keep_new hp) rfl fun u e => by
    rw [upd_ne (ne_of_none e hp)]
    exact e⟩
/-- refs below a bound, in a cell -/
def BdC (n : Nat) : Cell → Prop
  | .lst ws => Bds n ws
  | .dct kvs => Bds n (kvs.map Prod.snd)
  | .ins _ fs => Bds n (fs.map Prod.snd)
theorem KR.bd (he : φ.e = none) : ∀ {kvs : List (Key × W)} {ks : List (L2.Key × V)}, KR K φ n H kvs ks → Bds n (kvs.map Prod.snd)
  | _, _, .nil => .nil
  | _, _, .cons z t => .cons (z.2.bd he) (KR.bd he t)
theorem FR.bd (he : φ.e = none) : ∀ {kvs : List (List Nat × W)} {ks : List (PySem.Str × V)}, FR K φ n H kvs ks → Bds n (kvs.map Prod.snd)
  | _, _, .nil => .nil
  | _, _, .cons z t => .cons (z.2.bd he) (FR.bd he t)
theorem KR.cut (hf : ∀ i, i < n → φ' i = φ i) (hp : φ'.c = φ.c) : ∀ {kvs : List (Key × W)} {ks : List (L2.Key × V)}, KR K φ n' H kvs ks → Bds n (kvs.map Prod.snd) → KR K φ' n H kvs ks
  | _, _, .nil, _ => .nil
  | _, _, .cons z t, .cons y b => .cons ⟨z.1, z.2.cut hf hp y⟩ (KR.cut hf hp t b)
theorem FR.cut (hf : ∀ i, i < n → φ' i = φ i) (hp : φ'.c = φ.c) : ∀ {kvs : List (List Nat × W)} {ks : List (PySem.Str × V)}, FR K φ n' H kvs ks → Bds n (kvs.map Prod.snd) → FR K φ' n H kvs ks
  | _, _, .nil, _ => .nil
  | _, _, .cons z t, .cons y b => .cons ⟨z.1, z.2.cut hf hp y⟩ (FR.cut hf hp t b)
theorem CR.bd (he : φ.e = none) {a : Addr} {c : Cell} (r : CR K cls φ n H a c) : BdC n c := by
  cases c with
  | lst ws => obtain ⟨vs, h1, h2⟩ := r; exact h2.bd he
  | dct kvs => obtain ⟨vs, h1, h2⟩ := r; exact KR.bd he h2
  | ins c fs => obtain ⟨dx, vs, h1, h2⟩ := r; exact FR.bd he h2
theorem BdC.pure {c : Cell} (h : c.pure = true) : BdC n c := by
  cases c with
  | lst ws => exact Bds.pure h
  | dct kvs => exact Bds.pure h
  | ins c fs => exact Bds.pure h
theorem CR.cut {cls' : Cl} (hf : ∀ i, i < n → φ' i = φ i) (hp : φ'.c = φ.c) (hc : cls'.f = cls.f) {a : Addr} {c : Cell} (r : CR K cls φ n' H a c) (b : BdC n c) : CR K cls' φ' n H a c := by
  cases c with
  | lst ws => obtain ⟨vs, h1, h2⟩ := r; exact ⟨vs, h1, h2.cut hf hp b⟩
  | dct kvs => obtain ⟨vs, h1, h2⟩ := r; exact ⟨vs, h1, KR.cut hf hp h2 b⟩
  | ins c fs => obtain ⟨dx, vs, h1, h2⟩ := r; exact ⟨dx, vs, by rw [hc]; exact h1, FR.cut hf hp h2 b⟩
/-- a cell, when what changes is elsewhere and nothing fixed changes -/
theorem CR.heap {a : Addr} {c : Cell} (k : Keep H H') (ha : H' a = H a) (r : CR K cls φ n H a c) : CR K cls φ n H' a c := CR.mono (Ext.refl _ _) (Nat.le_refl _) k rfl (fun o e => by rw [ha]; exact e) r
/-- what stood ahead is as it was, or plain -/
theorem tame_of {h h' : Hs} (t : tame h h' = true) : h.length ≤ h'.length ∧ ∀ (i : Nat) (c : Cell), i < h.length → h'[i]? = some c → h[i]? = some c ∨ c.pure = true := by
  unfold tame at t
  rw [Bool.and_eq_true, decide_eq_true_eq, List.all_eq_true] at t
  refine ⟨t.1, fun i c hi hc => ?_⟩
  have := t.2 i (List.mem_range.mpr hi)
  rw [hc] at this
  rcases Bool.or_eq_true _ _ |>.mp this with z | z
  · exact .inl (of_decide_eq_true z).symm
  · exact .inr z
/-- fewer cells: h', then h.length of them -/
theorem Cells.less {h' : Hs} {cls' cls0 : Cl} {φ0 φ'' : Phi} {H0 : Hp} (C : Cells K cls φ h' H) (C0 : Cells K cls0 φ0 h H0) (he : φ0.e = none) (hc : cls'.f = cls.f) (hf : ∀ i, i < h.length → φ'' i = φ i) (hp : φ''.c = φ.c) (hn : φ''.e = cls'.su) (t : tame h h' = true) : Cells K cls' φ'' (h'.take h.length) H := by
  obtain ⟨hl, ht⟩ := tame_of t
  have len : (h'.take h.length).length = h.length := by rw [List.length_take]; omega
  refine ⟨fun i j hi hj ee => C.inj i j (by omega) (by omega) (by rw [← hf i (by omega), ← hf j (by omega)]; exact ee), hn, hp.trans (C.nof.trans hc.symm), fun i d hd => ?_⟩
  have hi : i < h.length := by have := (List.getElem?_eq_some_iff.mp hd).1; omega
  rw [List.getElem?_take, if_pos hi] at hd
  have r := C.cell i d hd
  rw [len, hf i hi]
  refine CR.cut hf hp hc r ?_
  rcases ht i d hi hd with z | z
  · exact (C0.cell i d z).bd he
  · exact .pure z
end
end PF
namespace PF
open PySem PySem.Spec PyProof.Rows L2
/-! ### what is wanted of a result -/
abbrev Rl (α β : Type) := Phi → Nat → Hp → α → β → Prop
/-- an exception's own dict -/
def PR (K : PySem.W.Frag) (φ : Phi) (n : Nat) (H : Hp) : Pay → Option Addr → Prop
  | none, d => d = none
  | some (f, w), d => ∃ a v, d = some a ∧ H a = some (.xd [(sS f, v)]) ∧ VR K φ n H w v
def Post {α β : Type} (K : PySem.W.Frag) (cls : Cl) (R : Rl α β) (φ : Phi) (n : Nat) (H0 : Hp) (E : XK) (Q : β → Hp → Prop) : Res α → Prop
  | .ok a h' => ∀ (φ' : Phi) (b : β) (H' : Hp), Ext φ φ' n → Keep H0 H' → Cells K cls φ' h' H' → R φ' h'.length H' a b → Q b H'
  | .exc c p h' => ∀ (φ' : Phi) (d : Option Addr) (H' : Hp), Ext φ φ' n → Keep H0 H' → Cells K cls φ' h' H' → PR K φ' h'.length H' p d → E (.ref (cls c)) d H'
  | .stuck => False
def grows {α : Type} (n : Nat) : Res α → Prop
  | .ok _ h' => n ≤ h'.length
  | .exc _ _ h' => n ≤ h'.length
  | .stuck => True
/-- one step further -/
structure Go {α β : Type} (K : PySem.W.Frag) (cls : Cl) (R : Rl α β) (φ : Phi) (n : Nat) (H0 : Hp) (φ1 : Phi) (a : α) (h1 : Hs) (b : β) (H1 : Hp) : Prop where
  e : Ext φ φ1 n
  l : n ≤ h1.length
  k : Keep H0 H1
  C : Cells K cls φ1 h1 H1
  r : R φ1 h1.length H1 a b
section
variable {α β γ δ : Type} {K : PySem.W.Frag} {cls : Cl} {R : Rl α β} {R' : Rl γ δ} {φ φ1 : Phi} {n n1 : Nat} {H0 H1 : Hp} {E : XK}
theorem Post.mono {Q Q' : β → Hp → Prop} {r : Res α} (p : Post K cls R φ n H0 E Q r) (q : ∀ b H, Q b H → Q' b H) : Post K cls R φ n H0 E Q' r := by
  cases r with
  | ok a h' => exact fun φ' b H' e k C r => q b H' (p φ' b H' e k C r)
  | exc c y h' => exact p
  | stuck => exact p
theorem Post.later {Q : β → Hp → Prop} {r : Res α} (p : Post K cls R φ n H0 E Q r) (e1 : Ext φ φ1 n) (l : n ≤ n1) (k1 : Keep H0 H1) : Post K cls R φ1 n1 H1 E Q r := by
  cases r with
  | ok a h' => exact fun φ' b H' e k C r => p φ' b H' (e1.trans e l) (k1.trans k) C r
  | exc c y h' => exact fun φ' b H' e k C r => p φ' b H' (e1.trans e l) (k1.trans k) C r
  | stuck => exact p
theorem Post.bind {Q : δ → Hp → Prop} {r : Res α} {f : α → Hs → Res γ} (g : grows n r) (p : Post K cls R' φ n H0 E Q (r.bind f)) :
    Post K cls R φ n H0 E (fun b H1 => ∃ φ1 a h1, Go K cls R φ n H0 φ1 a h1 b H1 ∧ Post K cls R' φ1 h1.length H1 E Q (f a h1)) r := by
  cases r with
  | ok a h' => exact fun φ' b H' e k C r => ⟨φ', a, h', ⟨e, g, k, C, r⟩, Post.later p e g k⟩
  | exc c y h' => exact p
  | stuck => exact p
theorem grows.bind {r : Res α} {f : α → Hs → Res γ} (g : grows n r) (q : ∀ a h, r = .ok a h → n ≤ h.length → grows n (f a h)) : grows n (r.bind f) := by
  cases r with
  | ok a h' => exact q a h' rfl g
  | exc c y h' => exact g
  | stuck => trivial
theorem grows.le {r : Res α} (g : grows n1 r) (l : n ≤ n1) : grows n r := by
  cases r with
  | ok a h' => exact Nat.le_trans l g
  | exc c y h' => exact Nat.le_trans l g
  | stuck => trivial
theorem Post.noX {Q : β → Hp → Prop} {E' : XK} {r : Res α} (p : Post K cls R φ n H0 E Q r.noX) : Post K cls R φ n H0 E' Q r := by
  cases r with
  | ok a h' => exact p
  | exc c y h' => exact p.elim
  | stuck => exact p
theorem grows.noX {r : Res α} (g : grows n r) : grows n r.noX := by
  cases r with
  | ok a h' => exact g
  | exc c y h' => trivial
  | stuck => trivial
end
def rW (K : PySem.W.Frag) : Rl W V := fun φ n H w v => VR K φ n H w v
def rWs (K : PySem.W.Frag) : Rl (List W) (List V) := fun φ n H w v => VRs K φ n H w v
def rB : Rl Bool Bool := fun _ _ _ a b => a = b
/-- at hand: the store, the slots -/
structure At (K : PySem.W.Frag) (cls : Cl) (φ : Phi) (h : Hs) (ρ : Env) (σ : L2.St) (H : Hp) : Prop where
  C : Cells K cls φ h H
  S : Slots K φ h.length H ρ σ
theorem At.go {α β : Type} {K : PySem.W.Frag} {cls : Cl} {R : Rl α β} {φ φ1 : Phi} {h h1 : Hs} {ρ : Env} {σ : L2.St} {H H1 : Hp} {a : α} {b : β} (x : At K cls φ h ρ σ H) (g : Go K cls R φ h.length H φ1 a h1 b H1) : At K cls φ1 h1 ρ σ H1 :=
  ⟨g.C, x.S.mono g.e g.l g.k⟩
/-- the reading of what is reckoned at slots and store -/
def tG {α β : Type} (K : PySem.W.Frag) (cls : Cl) (R : Rl α β) (W : WX) (d : Env → Hs → Res α) : L2.St → Hp → (β → Hp → Prop) → Prop := fun σ H Q =>
  ∃ φ h ρ, At K cls φ h ρ σ H ∧ Post K cls R φ h.length H (fun c d H' => W c d σ H') Q (d ρ h)
theorem tG.mono {α β : Type} {K : PySem.W.Frag} {cls : Cl} {R : Rl α β} {W : WX} {d : Env → Hs → Res α} {σ : L2.St} {H : Hp} {Q Q' : β → Hp → Prop} (t : tG K cls R W d σ H Q) (q : ∀ b H, Q b H → Q' b H) : tG K cls R W d σ H Q' :=
  let ⟨φ, h, ρ, x, p⟩ := t
  ⟨φ, h, ρ, x, p.mono q⟩
/-- the first of two: what stands behind it -/
theorem At.first {α β γ δ : Type} {K : PySem.W.Frag} {cls : Cl} {R : Rl α β} {R' : Rl γ δ} {W : WX} {φ : Phi} {h : Hs} {ρ : Env} {σ : L2.St} {H : Hp} {d : Env → Hs → Res α} {f : α → Hs → Res γ} {Q : δ → Hp → Prop} (x : At K cls φ h ρ σ H) (g : grows h.length (d ρ h))
    (p : Post K cls R' φ h.length H (fun c d H' => W c d σ H') Q ((d ρ h).bind f)) {Q1 : β → Hp → Prop}
    (q : ∀ b H1 φ1 a h1, Go K cls R φ h.length H φ1 a h1 b H1 → At K cls φ1 h1 ρ σ H1 → Post K cls R' φ1 h1.length H1 (fun c d H' => W c d σ H') Q (f a h1) → Q1 b H1) : tG K cls R W d σ H Q1 :=
  ⟨φ, h, ρ, x, (p.bind g).mono fun b H1 ⟨φ1, a, h1, go, p1⟩ => q b H1 φ1 a h1 go (x.go go) p1⟩
def Grow {α : Type} (d : Env → Hs → Res α) : Prop := ∀ ρ h, grows h.length (d ρ h)
theorem _root_.L2.PE.imp {X : Cx} {e : Expr} {t t' : TE} (h : PE X e t) (i : ∀ σ H Q, t' σ H Q → t σ H Q) : PE X e t' := ⟨fun pins s σ H Q I q => h.run pins s σ H Q I (i _ _ _ q)⟩
theorem _root_.L2.PT.imp {X : Cx} {e : Expr} {t t' : TT} (h : PT X e t) (i : ∀ σ H Q, t' σ H Q → t σ H Q) : PT X e t' := ⟨fun pins s σ H Q I q => h.run pins s σ H Q I (i _ _ _ q)⟩
theorem _root_.L2.PW.imp {X : Cx} {e : Expr} {t t' : TT} (h : PW X e t) (i : ∀ σ H Q, t' σ H Q → t σ H Q) : PW X e t' := ⟨fun w pins s σ H Q I q => h.run w pins s σ H Q I (i _ _ _ q)⟩
theorem _root_.L2.PA.imp {X : Cx} {e : List Expr} {t t' : TA} (h : PA X e t) (i : ∀ σ H Q, t' σ H Q → t σ H Q) : PA X e t' := ⟨fun p pins s σ H Q I q => h.run p pins s σ H Q I (i _ _ _ q)⟩
theorem _root_.L2.PS.imp {X : Cx} {e : Stmt} {t t' : TS} (h : PS X e t) (i : ∀ D σ H, t' D σ H → t D σ H) : PS X e t' := ⟨fun pins s σ H D I q => h.run pins s σ H D I (i _ _ _ q)⟩
theorem _root_.L2.PSs.imp {X : Cx} {e : List Stmt} {t t' : TS} (h : PSs X e t) (i : ∀ D σ H, t' D σ H → t D σ H) : PSs X e t' := ⟨fun pins s σ H D I q => h.run pins s σ H D I (i _ _ _ q)⟩
/-! ### the judgements -/
structure RE (X : Cx) (cls : Cl) (W : WX) (e : Expr) (d : D) : Prop where
  pe : PE X e (tG X.K cls (rW X.K) W d)
  g : Grow d
structure RT (X : Cx) (cls : Cl) (W : WX) (e : Expr) (d : T) : Prop where
  pt : PT X e (tG X.K cls rB W d)
  g : Grow d
structure RW (X : Cx) (cls : Cl) (W : WX) (e : Expr) (d : T) : Prop where
  pw : PW X e (tG X.K cls rB W d)
  g : Grow d
structure RA (X : Cx) (cls : Cl) (W : WX) (e : List Expr) (d : As) : Prop where
  pa : PA X e (tG X.K cls (rWs X.K) W d)
  g : Grow d
section
variable {X : Cx} {cls : Cl} {W : WX}
theorem tG.ok {α β : Type} {K : PySem.W.Frag} {R : Rl α β} {d : Env → Hs → Res α} {σ : L2.St} {H : Hp} {Q : β → Hp → Prop} {P : Prop} (t : tG K cls R W d σ H Q) (q : ∀ φ h ρ, At K cls φ h ρ σ H → Post K cls R φ h.length H (fun c d H' => W c d σ H') Q (d ρ h) → P) : P :=
  let ⟨φ, h, ρ, x, p⟩ := t
  q φ h ρ x p
/-! ### names, constants -/
theorem re_v (i : Nat) {x : PySem.Str} {pos : Pos} (hN : X.N[i]? = some x := by rfl) (hv : Vis X.env.scope x := by first | exact Or.inl rfl | exact Or.inr (Or.inl rfl) | exact Or.inr (Or.inr rfl)) (hd : (x == ("__debug__" : PySem.Str)) = false := by decide)
    (hcd : (x == ("__classdict__" : PySem.Str)) = false := by decide) : RE X cls W (.Name x pos) (dV i) := by
  refine ⟨(pe_var hN hv hd hcd).imp fun σ H Q t => t.ok fun φ h ρ x p => ?_, fun ρ h => ?_⟩
  · unfold dV at p
    split at p
    · rename_i w e
      obtain ⟨v, h1, h2⟩ := x.S.2 i w e
      exact ⟨v, h1, p φ v H (Ext.refl _ _) (Keep.refl _) x.C h2⟩
    · exact p.elim
  · unfold dV
    split
    · exact Nat.le_refl _
    · trivial
theorem grow_c (w : PF.W) : Grow (dC w) := fun _ _ => Nat.le_refl _
theorem re_c {e : Expr} {w : PF.W} {v : V} (h : PE X e (tC v)) (r : ∀ φ n H, VR X.K φ n H w v) : RE X cls W e (dC w) :=
  ⟨h.imp fun σ H Q t => t.ok fun φ h ρ x p => p φ v H (Ext.refl _ _) (Keep.refl _) x.C (r _ _ _), grow_c w⟩
theorem re_int {i : Int} {j : Tok} {pos : Pos} : RE X cls W (.Constant (.int i) j pos) (dC (.int i)) := re_c pe_int fun _ _ _ => .int i
theorem re_bl {i : Bool} {j : Tok} {pos : Pos} : RE X cls W (.Constant (.bool i) j pos) (dC (.bl i)) := re_c pe_bl fun _ _ _ => .bl i
theorem re_non {j : Tok} {pos : Pos} : RE X cls W (.Constant .none j pos) (dC .non) := re_c pe_non fun _ _ _ => .non
theorem re_str {z : PySem.Str} {j : Tok} {pos : Pos} (s : List Nat) (hs : z = sS s := by rfl) (ho : okS s := by decide) : RE X cls W (.Constant (.str z) j pos) (dC (.str s)) := by
  subst hs
  exact re_c pe_str fun _ _ _ => .str s ho
theorem re_glob {x : PySem.Str} {u : Value} {pos : Pos} (w : PF.W) (v : V) (hg : Gl X x) (hm : X.mg x = some u) (r : RelV v u) (q : ∀ φ n H, VR X.K φ n H w v) (hd : (x == ("__debug__" : PySem.Str)) = false := by decide) : RE X cls W (.Name x pos) (dC w) := re_c (pe_glob hg hm r hd) q
/-! ### operators by values -/
def rO (K : PySem.W.Frag) (cls : Cl) (o : PF.W → PF.W → Hs → Res PF.W) : R2 := fun x y H Q => ∃ φ h w u E, Cells K cls φ h H ∧ VR K φ h.length H w x ∧ VR K φ h.length H u y ∧ Post K cls (rW K) φ h.length H E Q (o w u h)
def GrO (o : PF.W → PF.W → Hs → Res PF.W) : Prop := ∀ w u h, grows h.length (o w u h)
theorem grow_bin {o : PF.W → PF.W → Hs → Res PF.W} {a b : D} (go : GrO o) (ga : Grow a) (gb : Grow b) : Grow (dBin o a b) := fun ρ h =>
  (ga ρ h).bind fun x h1 _ l1 => ((gb ρ h1).le l1).bind fun y h2 _ l2 => (go x y h2).le l2
theorem tG.bin {o : PF.W → PF.W → Hs → Res PF.W} {da db : D} (ga : Grow da) (gb : Grow db) {σ : L2.St} {H : Hp} {Q : VK} (t : tG X.K cls (rW X.K) W (dBin o da db) σ H Q) : tOp (rO X.K cls o) (tG X.K cls (rW X.K) W da) (tG X.K cls (rW X.K) W db) σ H Q :=
  t.ok fun φ h ρ x p => x.first (ga ρ h) p fun v H1 φ1 w1 h1 g1 x1 p1 => x1.first (gb ρ h1) p1 fun u H2 φ2 w2 h2 g2 x2 p2 =>
    ⟨φ2, h2, w1, w2, _, g2.C, VR.mono g2.e g2.l g2.k g1.r, g2.r, p2⟩
theorem re_bin {op : Operator} {o : PF.W → PF.W → Hs → Res PF.W} {a b : Expr} {da db : D} {pos : Pos} (ho : OpR X (binaryOp op) (rO X.K cls o)) (go : GrO o) (ha : RE X cls W a da) (hb : RE X cls W b db) : RE X cls W (.BinOp a op b pos) (dBin o da db) :=
  ⟨(pe_op ho ha.pe hb.pe).imp fun _ _ _ t => t.bin ha.g hb.g, grow_bin go ha.g hb.g⟩
theorem re_cmp {op : CmpOp} {o : PF.W → PF.W → Hs → Res PF.W} {a b : Expr} {da db : D} {pos : Pos} (ho : OpR X (compareOp op) (rO X.K cls o)) (go : GrO o) (ha : RE X cls W a da) (hb : RE X cls W b db) (hm : behindInMarks op b = false) : RE X cls W (.Compare a [op] [b] pos) (dBin o da db) :=
  ⟨(pe_cmpR ho ha.pe hb.pe hm).imp fun _ _ _ t => t.bin ha.g hb.g, grow_bin go ha.g hb.g⟩
theorem grow_val {a : D} (ga : Grow a) : Grow (tVal a) := fun ρ h => (ga ρ h).bind fun x h1 _ l1 => by
  unfold asB
  split
  · exact l1
  · trivial
theorem tG.val {d : D} {σ : L2.St} {H : Hp} {Q : Bool → Hp → Prop} (ga : Grow d) (t : tG X.K cls rB W (tVal d) σ H Q) : tB (tG X.K cls (rW X.K) W d) σ H Q :=
  t.ok fun φ h ρ x p => x.first (ga ρ h) p fun v H1 φ1 w1 h1 g1 x1 p1 => by
    unfold asB at p1
    split at p1
    · have := g1.r
      cases this
      exact ⟨_, rfl, p1 φ1 _ H1 (Ext.refl _ _) (Keep.refl _) g1.C rfl⟩
    · exact p1.elim
theorem rt_val {e : Expr} {d : D} (h : RE X cls W e d) (he : ∀ whole, PySem.isTrue e X.env whole = (do let v ← whole; standAt e.pos; holding [v] (truthy v)) := by intro _; rfl) : RT X cls W e (tVal d) := ⟨(pt_val h.pe he).imp fun _ _ _ t => t.val h.g, grow_val h.g⟩
theorem rt_cmp {op : CmpOp} {o : PF.W → PF.W → Hs → Res PF.W} {a b : Expr} {da db : D} {pos : Pos} (ho : OpR X (compareOp op) (rO X.K cls o)) (go : GrO o) (ha : RE X cls W a da) (hb : RE X cls W b db) (hm : behindInMarks op b = false) : RT X cls W (.Compare a [op] [b] pos) (tVal (dBin o da db)) :=
  ⟨(pt_cmpR ho ha.pe hb.pe hm).imp fun σ H Q t => (t.val (grow_bin go ha.g hb.g)).bin ha.g hb.g, grow_val (grow_bin go ha.g hb.g)⟩
end
end PF
namespace PF
open PySem PySem.Spec PyProof.Rows L2
section
variable {X : Cx} {cls : Cl} {W : WX} {a b c : Expr} {rest : List Expr} {pos : Pos} {da db dc : D} {ta tb : T}
/-! ### and, or, not -/
theorem asB_grows {α : Type} {n : Nat} {w : PF.W} {k : Bool → Res α} (h : ∀ b, grows n (k b)) : grows n (asB w k) := by
  unfold asB
  split
  · exact h _
  · trivial
theorem asB_post {α β : Type} {K : PySem.W.Frag} {R : Rl α β} {φ : Phi} {n m : Nat} {H H' : Hp} {E : XK} {Q : β → Hp → Prop} {w : PF.W} {v : V} {k : Bool → Res α} (r : VR K φ m H' w v) (p : Post K cls R φ n H E Q (asB w k)) : ∃ c, v = .bl c ∧ Post K cls R φ n H E Q (k c) := by
  unfold asB at p
  split at p
  · cases r
    exact ⟨_, rfl, p⟩
  · exact p.elim
theorem re_one {op : BoolOp} (h : RE X cls W a da) : RE X cls W (.BoolOp op [a] pos) da := ⟨pe_one h.pe, h.g⟩
theorem re_and (ha : RE X cls W a da) (hb : RE X cls W (.BoolOp .And (b :: rest) pos) db) : RE X cls W (.BoolOp .And (a :: b :: rest) pos) (dAnd da db) :=
  ⟨(pe_and ha.pe hb.pe).imp fun σ H Q t => t.ok fun φ h ρ x p => x.first (ha.g ρ h) p fun v H1 φ1 w1 h1 g1 x1 p1 => by
    obtain ⟨c, rfl, p2⟩ := asB_post g1.r p1
    refine ⟨c, rfl, ?_⟩
    split
    · rename_i e
      rw [if_pos e] at p2
      exact ⟨φ1, h1, ρ, x1, p2⟩
    · rename_i e
      rw [if_neg e] at p2
      exact p2 φ1 _ H1 (Ext.refl _ _) (Keep.refl _) g1.C (.bl false),
   fun ρ h => (ha.g ρ h).bind fun x h1 _ l1 => asB_grows fun c => by
    split
    · exact (hb.g ρ h1).le l1
    · exact l1⟩
theorem re_or (ha : RE X cls W a da) (hb : RE X cls W (.BoolOp .Or (b :: rest) pos) db) : RE X cls W (.BoolOp .Or (a :: b :: rest) pos) (dOr da db) :=
  ⟨(pe_or ha.pe hb.pe).imp fun σ H Q t => t.ok fun φ h ρ x p => x.first (ha.g ρ h) p fun v H1 φ1 w1 h1 g1 x1 p1 => by
    obtain ⟨c, rfl, p2⟩ := asB_post g1.r p1
    refine ⟨c, rfl, ?_⟩
    split
    · rename_i e
      rw [if_pos e] at p2
      exact p2 φ1 _ H1 (Ext.refl _ _) (Keep.refl _) g1.C (.bl true)
    · rename_i e
      rw [if_neg e] at p2
      exact ⟨φ1, h1, ρ, x1, p2⟩,
   fun ρ h => (ha.g ρ h).bind fun x h1 _ l1 => asB_grows fun c => by
    split
    · exact l1
    · exact (hb.g ρ h1).le l1⟩
theorem re_not (ha : RE X cls W a da) : RE X cls W (.UnaryOp .Not a pos) (dNot da) :=
  ⟨(pe_not ha.pe).imp fun σ H Q t => t.ok fun φ h ρ x p => x.first (ha.g ρ h) p fun v H1 φ1 w1 h1 g1 x1 p1 => by
    obtain ⟨c, rfl, p2⟩ := asB_post g1.r p1
    exact ⟨c, rfl, p2 φ1 _ H1 (Ext.refl _ _) (Keep.refl _) g1.C (.bl _)⟩,
   fun ρ h => (ha.g ρ h).bind fun x h1 _ l1 => asB_grows fun c => l1⟩
theorem rt_w {t : T} (h : RW X cls W a t) : RT X cls W a t := ⟨h.pw.pt, h.g⟩
theorem rw_and1 (h : RT X cls W a ta) : RW X cls W (.BoolOp .And [a] pos) ta := ⟨pw_and1 h.pt, h.g⟩
theorem rw_or1 (h : RT X cls W a ta) : RW X cls W (.BoolOp .Or [a] pos) ta := ⟨pw_or1 h.pt, h.g⟩
theorem rw_and (ha : RT X cls W a ta) (hb : RW X cls W (.BoolOp .And (b :: rest) pos) tb) : RW X cls W (.BoolOp .And (a :: b :: rest) pos) (PF.tAnd ta tb) :=
  ⟨(pw_and ha.pt hb.pw).imp fun σ H Q t => t.ok fun φ h ρ x p => x.first (ha.g ρ h) p fun v H1 φ1 w1 h1 g1 x1 p1 => by
    have e : w1 = v := g1.r
    subst e
    split
    · rename_i e
      rw [if_pos e] at p1
      exact ⟨φ1, h1, ρ, x1, p1⟩
    · rename_i e
      rw [if_neg e] at p1
      exact p1 φ1 _ H1 (Ext.refl _ _) (Keep.refl _) g1.C rfl,
   fun ρ h => (ha.g ρ h).bind fun c h1 _ l1 => by
    split
    · exact (hb.g ρ h1).le l1
    · exact l1⟩
theorem rw_or (ha : RT X cls W a ta) (hb : RW X cls W (.BoolOp .Or (b :: rest) pos) tb) : RW X cls W (.BoolOp .Or (a :: b :: rest) pos) (PF.tOr ta tb) :=
  ⟨(pw_or ha.pt hb.pw).imp fun σ H Q t => t.ok fun φ h ρ x p => x.first (ha.g ρ h) p fun v H1 φ1 w1 h1 g1 x1 p1 => by
    have e : w1 = v := g1.r
    subst e
    split
    · rename_i e
      rw [if_pos e] at p1
      exact p1 φ1 _ H1 (Ext.refl _ _) (Keep.refl _) g1.C rfl
    · rename_i e
      rw [if_neg e] at p1
      exact ⟨φ1, h1, ρ, x1, p1⟩,
   fun ρ h => (ha.g ρ h).bind fun c h1 _ l1 => by
    split
    · exact l1
    · exact (hb.g ρ h1).le l1⟩
theorem rt_not (ha : RT X cls W a ta) : RT X cls W (.UnaryOp .Not a pos) (PF.tNot ta) :=
  ⟨(pt_not ha.pt).imp fun σ H Q t => t.ok fun φ h ρ x p => x.first (ha.g ρ h) p fun v H1 φ1 w1 h1 g1 x1 p1 => by
    have e : w1 = v := g1.r
    subst e
    exact p1 φ1 _ H1 (Ext.refl _ _) (Keep.refl _) g1.C rfl,
   fun ρ h => (ha.g ρ h).bind fun c h1 _ l1 => l1⟩
theorem re_if {c : Expr} {t : T} (hc : RT X cls W c t) (ha : RE X cls W a da) (hb : RE X cls W b db) : RE X cls W (.IfExp c a b pos) (dIf t da db) :=
  ⟨(pe_ifExp hc.pt ha.pe hb.pe).imp fun σ H Q t => t.ok fun φ h ρ x p => x.first (hc.g ρ h) p fun v H1 φ1 w1 h1 g1 x1 p1 => by
    have e : w1 = v := g1.r
    subst e
    split
    · rename_i e
      rw [if_pos e] at p1
      exact ⟨φ1, h1, ρ, x1, p1⟩
    · rename_i e
      rw [if_neg e] at p1
      exact ⟨φ1, h1, ρ, x1, p1⟩,
   fun ρ h => (hc.g ρ h).bind fun c h1 _ l1 => by
    split
    · exact (ha.g ρ h1).le l1
    · exact (hb.g ρ h1).le l1⟩
theorem grow_chain {o o' : PF.W → PF.W → Hs → Res PF.W} (go : GrO o) (go' : GrO o') (ga : Grow da) (gb : Grow db) (gc : Grow dc) : Grow (dChain o o' da db dc) := fun ρ h => (ga ρ h).bind fun x h1 _ l1 => ((gb ρ h1).le l1).bind fun y h2 _ l2 => ((go x y h2).le l2).bind fun z h3 _ l3 => by
  split
  · exact ((gc ρ h3).le l3).bind fun u h4 _ l4 => (go' y u h4).le l4
  · exact l3
  · trivial
theorem chain_imp {o o' : PF.W → PF.W → Hs → Res PF.W} (go : GrO o) (go' : GrO o') (ga : Grow da) (gb : Grow db) (gc : Grow dc) {σ : L2.St} {H : Hp} {Q : VK} (t : tG X.K cls (rW X.K) W (dChain o o' da db dc) σ H Q) :
    tChain (rO X.K cls o) (rO X.K cls o') (tG X.K cls (rW X.K) W da) (tG X.K cls (rW X.K) W db) (tG X.K cls (rW X.K) W dc) σ H Q := by
  refine t.ok fun φ h ρ x p => x.first (ga ρ h) p fun v H1 φ1 w1 h1 g1 x1 p1 => x1.first (gb ρ h1) p1 fun u H2 φ2 w2 h2 g2 x2 p2 => ?_
  refine ⟨φ2, h2, w1, w2, _, g2.C, VR.mono g2.e g2.l g2.k g1.r, g2.r, (p2.bind (R := rW X.K) (go w1 w2 h2)).mono ?_⟩
  rintro z H3 ⟨φ3, w3, h3, g3, p3⟩
  have r3 := g3.r
  have x3 : At X.K cls φ3 h3 ρ σ H3 := x2.go g3
  split at p3
  · cases r3
    refine ⟨true, rfl, ?_⟩
    rw [if_pos rfl]
    exact x3.first (gc ρ h3) p3 fun v' H4 φ4 w4 h4 g4 x4 p4 => ⟨φ4, h4, w2, w4, _, g4.C, VR.mono g4.e g4.l g4.k (VR.mono g3.e g3.l g3.k g2.r), g4.r, p4⟩
  · cases r3
    refine ⟨false, rfl, ?_⟩
    rw [if_neg Bool.false_ne_true]
    exact p3 φ3 _ H3 (Ext.refl _ _) (Keep.refl _) g3.C (.bl false)
  · exact p3.elim
/-- a op b op' c -/
theorem re_chain {op op' : CmpOp} {o o' : PF.W → PF.W → Hs → Res PF.W} (ho : OpR X (compareOp op) (rO X.K cls o)) (go : GrO o) (ho' : OpR X (compareOp op') (rO X.K cls o')) (go' : GrO o') (ha : RE X cls W a da) (hb : RE X cls W b db) (hc : RE X cls W c dc)
    (hm : lastMarks [op, op'] [b, c] = false := by with_unfolding_all rfl) : RE X cls W (.Compare a [op, op'] [b, c] pos) (dChain o o' da db dc) := by
  have hg : Grow (dChain o o' da db dc) := grow_chain go go' ha.g hb.g hc.g
  exact ⟨(pe_chain ho ho' ha.pe hb.pe hc.pe hm).imp fun σ H Q t => chain_imp go go' ha.g hb.g hc.g t, hg⟩
/-! ### argument lists, displays -/
theorem ra_nil : RA X cls W [] aNil := ⟨pa_nil.imp fun σ H Q t => t.ok fun φ h ρ x p => p φ _ H (Ext.refl _ _) (Keep.refl _) x.C .nil, fun _ _ => Nat.le_refl _⟩
theorem ra_cons {e : Expr} {es : List Expr} {d : D} {as : As} (ha : RE X cls W e d) (hr : RA X cls W es as) (hs : starEach (e :: es) X.env = (false, eval e X.env) :: starEach es X.env := by rfl) : RA X cls W (e :: es) (aCons d as) :=
  ⟨(pa_cons ha.pe hr.pa hs).imp fun σ H Q t => t.ok fun φ h ρ x p => x.first (ha.g ρ h) p fun v H1 φ1 w1 h1 g1 x1 p1 => x1.first (hr.g ρ h1) p1 fun vs H2 φ2 ws h2 g2 x2 p2 =>
    p2 φ2 _ H2 (Ext.refl _ _) (Keep.refl _) g2.C (.cons (VR.mono g2.e g2.l g2.k g1.r) g2.r),
   fun ρ h => (ha.g ρ h).bind fun x h1 _ l1 => ((hr.g ρ h1).le l1).bind fun y h2 _ l2 => l2⟩
theorem bigL_eq : bigL = sizeLine := by rw [sizeLine_eq]; rfl
/-- a new tuple at hand -/
theorem post_tup {K : PySem.W.Frag} {φ : Phi} {h : Hs} {H : Hp} {E : XK} {Q : VK} {ws : List PF.W} {vs : List V} (C : Cells K cls φ h H) (r : VRs K φ h.length H ws vs) (p : Post K cls (rW K) φ h.length H E Q (.ok (.tup ws) h)) :
    ∀ q, H q = none → Q (.ref q) (upd H q (.tup vs)) := fun q hq =>
  p φ _ _ (Ext.refl _ _) (keep_new hq) (C.other hq) (.tup (.inl (.inl upd_same)) (r.mono (Ext.refl _ _) (Nat.le_refl _) (keep_new hq)))
/-- a new list -/
theorem post_lst {K : PySem.W.Frag} {φ : Phi} {h : Hs} {H : Hp} {E : XK} {Q : VK} {ws : List PF.W} {vs : List V} (C : Cells K cls φ h H) (r : VRs K φ h.length H ws vs) (p : Post K cls (rW K) φ h.length H E Q (newL ws h)) :
    ∀ q, H q = none → Q (.ref q) (upd H q (.lst vs)) := fun q hq => by
  have q1 := p (put φ h.length q) (.ref q) _ (put_ext _ _ _) (keep_new hq) (C.new hq ⟨vs, upd_same, r.mono (put_ext _ _ _) (Nat.le_succ _) (keep_new hq)⟩)
  refine q1 ?_
  have e : V.ref q = .ref (put φ h.length q h.length) := by rw [put_at]
  rw [e]
  exact .ref (by rw [List.length_append, List.length_singleton]; exact Nat.lt_succ_self _)
theorem newL_grows (ws : List PF.W) (h : Hs) : grows h.length (newL ws h) := by
  show h.length ≤ (h ++ [Cell.lst ws]).length
  rw [List.length_append]
  exact Nat.le_add_right _ _
theorem re_tup {es : List Expr} {as : As} {j : Tok} (ha : RA X cls W es as) : RE X cls W (.Tuple es j pos) (dTup as) :=
  ⟨(pe_tup ha.pa).imp fun σ H Q t => t.ok fun φ h ρ x p => x.first (ha.g ρ h) p fun vs H1 φ1 ws h1 g1 x1 p1 => by
    have hr : VRs X.K φ1 h1.length H1 ws vs := g1.r
    split at p1
    · rename_i hl
      exact ⟨by rw [← hr.length, ← bigL_eq]; exact hl, post_tup g1.C hr p1⟩
    · exact p1.elim,
   fun ρ h => (ha.g ρ h).bind fun x h1 _ l1 => by
    split
    · exact l1
    · trivial⟩
theorem re_lst {es : List Expr} {as : As} (ha : RA X cls W es as) : RE X cls W (.List es pos) (dLst as) :=
  ⟨(pe_lst ha.pa).imp fun σ H Q t => t.ok fun φ h ρ x p => x.first (ha.g ρ h) p fun vs H1 φ1 ws h1 g1 x1 p1 => by
    have hr : VRs X.K φ1 h1.length H1 ws vs := g1.r
    split at p1
    · rename_i hl
      exact ⟨by rw [← hr.length, ← bigL_eq]; exact hl, post_lst g1.C hr p1⟩
    · exact p1.elim,
   fun ρ h => (ha.g ρ h).bind fun x h1 _ l1 => by
    split
    · exact (newL_grows _ _).le l1
    · trivial⟩
/-! ### unary operators, calls of built-ins, methods, subscripts, by values -/
def rU1 (K : PySem.W.Frag) (cls : Cl) (o : PF.W → Hs → Res PF.W) : V → Hp → VK → Prop := fun x H Q => ∃ φ h w E, Cells K cls φ h H ∧ VR K φ h.length H w x ∧ Post K cls (rW K) φ h.length H E Q (o w h)
def GrU (o : PF.W → Hs → Res PF.W) : Prop := ∀ w h, grows h.length (o w h)
theorem grow_un {o : PF.W → Hs → Res PF.W} (go : GrU o) (ga : Grow da) : Grow (dUn o da) := fun ρ h => (ga ρ h).bind fun x h1 _ l1 => (go x h1).le l1
theorem re_un {op : UnaryOp} {o : PF.W → Hs → Res PF.W} (ho : UnR X (unaryOp op) (rU1 X.K cls o)) (go : GrU o) (ha : RE X cls W a da) : RE X cls W (.UnaryOp op a pos) (dUn o da) :=
  ⟨(pe_un ho ha.pe).imp fun σ H Q t => t.ok fun φ h ρ x p => x.first (ha.g ρ h) p fun v H1 φ1 w1 h1 g1 x1 p1 => ⟨φ1, h1, w1, _, g1.C, g1.r, p1⟩, grow_un go ha.g⟩
/-- a built-in of a list of arguments -/
def rC (K : PySem.W.Frag) (cls : Cl) (o : Fn) : List V → Hp → VK → Prop := fun xs H Q => ∃ φ h ws E, Cells K cls φ h H ∧ VRs K φ h.length H ws xs ∧ Post K cls (rW K) φ h.length H E Q (o ws h)
def GrC (o : Fn) : Prop := ∀ ws h, grows h.length (o ws h)
theorem grow_call {f : Fn} {as : As} (gf : GrC f) (ga : Grow as) : Grow (dCall f as) := fun ρ h => (ga ρ h).bind fun xs h1 _ l1 => (gf xs h1).le l1
theorem tG.call {f : Fn} {as : As} (ga : Grow as) {σ : L2.St} {H : Hp} {Q : VK} (t : tG X.K cls (rW X.K) W (dCall f as) σ H Q) : tG X.K cls (rWs X.K) W as σ H (fun vs H1 => rC X.K cls f vs H1 Q) :=
  t.ok fun φ h ρ x p => x.first (ga ρ h) p fun vs H1 φ1 ws h1 g1 x1 p1 => ⟨φ1, h1, ws, _, g1.C, g1.r, p1⟩
end
end PF
namespace PF
open PySem PySem.Spec PyProof.Rows L2
/-! ### statements -/
structure Gs (K : PySem.W.Frag) (cls : Cl) (φ : Phi) (n : Nat) (H0 : Hp) (φ1 : Phi) (h1 : Hs) (H1 : Hp) : Prop where
  e : Ext φ φ1 n
  l : n ≤ h1.length
  k : Keep H0 H1
  C : Cells K cls φ1 h1 H1
def PostS (K : PySem.W.Frag) (cls : Cl) (φ : Phi) (n : Nat) (H0 : Hp) (W : WX) (D : Ends) : Out → Prop
  | .nx ρ h' => ∀ φ' σ' H', Ext φ φ' n → Keep H0 H' → At K cls φ' h' ρ σ' H' → D.nx σ' H'
  | .bk ρ h' => ∀ φ' σ' H', Ext φ φ' n → Keep H0 H' → At K cls φ' h' ρ σ' H' → D.bk σ' H'
  | .ct ρ h' => ∀ φ' σ' H', Ext φ φ' n → Keep H0 H' → At K cls φ' h' ρ σ' H' → D.ct σ' H'
  | .ret w h' => ∀ φ' v H', Ext φ φ' n → Keep H0 H' → Cells K cls φ' h' H' → VR K φ' h'.length H' w v → D.rt v H'
  | .exc c p ρ h' => ∀ φ' d σ' H', Ext φ φ' n → Keep H0 H' → At K cls φ' h' ρ σ' H' → PR K φ' h'.length H' p d → W (.ref (cls c)) d σ' H'
  | .stuck => False
def growsS (n : Nat) : Out → Prop
  | .nx _ h' => n ≤ h'.length
  | .bk _ h' => n ≤ h'.length
  | .ct _ h' => n ≤ h'.length
  | .ret _ h' => n ≤ h'.length
  | .exc _ _ _ h' => n ≤ h'.length
  | .stuck => True
theorem growsS.le {n n1 : Nat} {r : Out} (g : growsS n1 r) (l : n ≤ n1) : growsS n r := by
  cases r with
  | stuck => trivial
  | _ => exact Nat.le_trans l g
def GrowS (b : Sm) : Prop := ∀ ρ h, growsS h.length (b ρ h)
def tS (K : PySem.W.Frag) (cls : Cl) (W : WX) (b : Sm) : TS := fun D σ H => ∃ φ h ρ, At K cls φ h ρ σ H ∧ PostS K cls φ h.length H W D (b ρ h)
structure RS (X : Cx) (cls : Cl) (W : WX) (st : Stmt) (b : Sm) : Prop where
  ps : PS X st (tS X.K cls W b)
  g : GrowS b
structure RSs (X : Cx) (cls : Cl) (W : WX) (st : List Stmt) (b : Sm) : Prop where
  ps : PSs X st (tS X.K cls W b)
  g : GrowS b
section
variable {K : PySem.W.Frag} {cls : Cl} {φ φ1 : Phi} {n n1 : Nat} {H0 H1 : Hp} {W : WX} {D : Ends}
theorem PostS.later {r : Out} (p : PostS K cls φ n H0 W D r) (e1 : Ext φ φ1 n) (l : n ≤ n1) (k1 : Keep H0 H1) : PostS K cls φ1 n1 H1 W D r := by
  cases r with
  | nx ρ h => exact fun φ' σ' H' e k x => p φ' σ' H' (e1.trans e l) (k1.trans k) x
  | bk ρ h => exact fun φ' σ' H' e k x => p φ' σ' H' (e1.trans e l) (k1.trans k) x
  | ct ρ h => exact fun φ' σ' H' e k x => p φ' σ' H' (e1.trans e l) (k1.trans k) x
  | ret w h => exact fun φ' v H' e k C r => p φ' v H' (e1.trans e l) (k1.trans k) C r
  | exc c y ρ h => exact fun φ' d σ' H' e k x r => p φ' d σ' H' (e1.trans e l) (k1.trans k) x r
  | stuck => exact p
theorem tS.ok {b : Sm} {σ : L2.St} {H : Hp} {P : Prop} (t : tS K cls W b D σ H) (q : ∀ φ h ρ, At K cls φ h ρ σ H → PostS K cls φ h.length H W D (b ρ h) → P) : P :=
  let ⟨φ, h, ρ, x, p⟩ := t
  q φ h ρ x p
/-- an expression first, then the rest -/
theorem At.firstS {α β : Type} {R : Rl α β} {h : Hs} {ρ : Env} {σ : L2.St} {H : Hp} {d : Env → Hs → Res α} {f : α → Hs → Out} (x : At K cls φ h ρ σ H) (g : grows h.length (d ρ h))
    (p : PostS K cls φ h.length H W D (onR (d ρ h) ρ f)) {Q1 : β → Hp → Prop}
    (q : ∀ b H1 φ1 a h1, Go K cls R φ h.length H φ1 a h1 b H1 → At K cls φ1 h1 ρ σ H1 → PostS K cls φ1 h1.length H1 W D (f a h1) → Q1 b H1) : tG K cls R W d σ H Q1 := by
  refine ⟨φ, h, ρ, x, ?_⟩
  revert p g
  cases d ρ h with
  | ok a h1 => exact fun g p φ' b H' e k C r => q b H' φ' a h1 ⟨e, g, k, C, r⟩ ⟨C, x.S.mono e g k⟩ (p.later e g k)
  | exc c y h1 => exact fun g p φ' d H' e k C r => p φ' d σ H' e k ⟨C, x.S.mono e g k⟩ r
  | stuck => exact fun _ p => p.elim
theorem growsS.onR {α : Type} {r : Res α} {ρ : Env} {f : α → Hs → Out} (g : grows n r) (q : ∀ a h, r = .ok a h → n ≤ h.length → growsS n (f a h)) : growsS n (PF.onR r ρ f) := by
  cases r with
  | ok a h => exact q a h rfl g
  | exc c p h => exact g
  | stuck => trivial
end
section
variable {X : Cx} {cls : Cl} {W : WX} {st : Stmt} {rest : List Stmt} {a b : Sm} {e : Expr} {d : PF.D} {pos : Pos}
theorem rss_nil : RSs X cls W [] sNx := ⟨pss_nil.imp fun D σ H t => t.ok fun φ h ρ x p => p φ σ H (Ext.refl _ _) (Keep.refl _) x, fun _ _ => Nat.le_refl _⟩
theorem rss_one (h : RS X cls W st a) : RSs X cls W [st] a := ⟨pss_one h.ps, h.g⟩
theorem rss_cons (h1 : RS X cls W st a) (h2 : RSs X cls W rest b) : RSs X cls W (st :: rest) (sSeq a b) := by
  refine ⟨(pss_cons h1.ps h2.ps).imp fun D σ H t => t.ok fun φ h ρ x p => ⟨φ, h, ρ, x, ?_⟩, fun ρ h => ?_⟩
  · have g1 := h1.g ρ h
    unfold sSeq at p
    revert p g1
    cases a ρ h with
    | nx ρ1 h1 => exact fun p g1 φ' σ' H' e k x' => ⟨φ', h1, ρ1, x', p.later e g1 k⟩
    | _ => exact fun p _ => p
  · have g1 := h1.g ρ h
    unfold sSeq
    revert g1
    cases a ρ h with
    | nx ρ1 h1 => exact fun g1 => (h2.g ρ1 h1).le g1
    | _ => exact fun g => g
theorem rs_exp (he : RE X cls W e d) (hs : swapsWith e none pos.line X.env = pure false := by rfl) : RS X cls W (.Expr e pos) (sExp d) :=
  ⟨(ps_expr he.pe hs).imp fun D σ H t => t.ok fun φ h ρ x p => x.firstS (he.g ρ h) p fun v H1 φ1 w1 h1 g1 x1 p1 => p1 φ1 σ H1 (Ext.refl _ _) (Keep.refl _) x1,
   fun ρ h => growsS.onR (he.g ρ h) fun w h1 _ l => l⟩
theorem rs_ret (he : RE X cls W e d) : RS X cls W (.Return (some e) pos) (sRet d) :=
  ⟨(ps_ret he.pe).imp fun D σ H t => t.ok fun φ h ρ x p => x.firstS (he.g ρ h) p fun v H1 φ1 w1 h1 g1 x1 p1 => p1 φ1 v H1 (Ext.refl _ _) (Keep.refl _) g1.C g1.r,
   fun ρ h => growsS.onR (he.g ρ h) fun w h1 _ l => l⟩
theorem rs_retN : RS X cls W (.Return none pos) sRetN := ⟨ps_retN.imp fun D σ H t => t.ok fun φ h ρ x p => p φ .non H (Ext.refl _ _) (Keep.refl _) x.C .non, fun _ _ => Nat.le_refl _⟩
theorem rs_pass : RS X cls W (.Pass pos) sNx := ⟨ps_pass.imp fun D σ H t => t.ok fun φ h ρ x p => p φ σ H (Ext.refl _ _) (Keep.refl _) x, fun _ _ => Nat.le_refl _⟩
theorem rs_brk : RS X cls W (.Break pos) sBrk := ⟨ps_break.imp fun D σ H t => t.ok fun φ h ρ x p => p φ σ H (Ext.refl _ _) (Keep.refl _) x, fun _ _ => Nat.le_refl _⟩
theorem rs_cnt : RS X cls W (.Continue pos) sCnt := ⟨ps_continue.imp fun D σ H t => t.ok fun φ h ρ x p => p φ σ H (Ext.refl _ _) (Keep.refl _) x, fun _ _ => Nat.le_refl _⟩
theorem rs_if {c : Expr} {sa sb : List Stmt} {t : T} (hc : RT X cls W c t) (ha : RSs X cls W sa a) (hb : RSs X cls W sb b) : RS X cls W (.If c sa sb pos) (sIf t a b) :=
  ⟨(ps_if hc.pt ha.ps hb.ps).imp fun D σ H t => t.ok fun φ h ρ x p => x.firstS (hc.g ρ h) p fun v H1 φ1 w1 h1 g1 x1 p1 => by
    have e : w1 = v := g1.r
    subst e
    split
    · rename_i e
      rw [if_pos e] at p1
      exact ⟨φ1, h1, ρ, x1, p1⟩
    · rename_i e
      rw [if_neg e] at p1
      exact ⟨φ1, h1, ρ, x1, p1⟩,
   fun ρ h => growsS.onR (hc.g ρ h) fun c h1 _ l => by
    split
    · exact (ha.g ρ h1).le l
    · exact (hb.g ρ h1).le l⟩
/-! ### targets -/
def tT (K : PySem.W.Frag) (g : Tg) : TG := fun v σ H Q => ∃ φ n w ρ, VR K φ n H w v ∧ Slots K φ n H ρ σ ∧ ∃ ρ1, g.run w ρ = some ρ1 ∧ ∀ σ1, Slots K φ n H ρ1 σ1 → (∀ j, j ∉ g.ids → σ1[j]? = σ[j]?) → Q σ1 H
def tTs (K : PySem.W.Frag) (gs : List Tg) : TGs := fun vs σ H Q => ∃ φ n ws ρ, VRs K φ n H ws vs ∧ Slots K φ n H ρ σ ∧ ∃ ρ1, Tg.runs gs ws ρ = some ρ1 ∧ ∀ σ1, Slots K φ n H ρ1 σ1 → (∀ j, j ∉ Tg.idss gs → σ1[j]? = σ[j]?) → Q σ1 H
theorem _root_.L2.PG.imp {X : Cx} {e : Expr} {t t' : TG} (h : PG X e t) (i : ∀ v σ H Q, t' v σ H Q → t v σ H Q) : PG X e t' := ⟨fun pins s σ H v u Q I r q => h.run pins s σ H v u Q I r (i _ _ _ _ q)⟩
theorem _root_.L2.PGs.imp {X : Cx} {e : List Expr} {t t' : TGs} (h : PGs X e t) (i : ∀ v σ H Q, t' v σ H Q → t v σ H Q) : PGs X e t' := ⟨fun pins s σ H v u Q I r q => h.run pins s σ H v u Q I r (i _ _ _ _ q)⟩
theorem rg_n (i : Nat) {x : PySem.Str} (hN : X.N.Nodup) (hi : X.N[i]? = some x) (hx : Loc X.env.scope x) (hf : X.fn x = true ∨ X.env.scope.names.lookup x = some .local := by first | exact .inl rfl | exact .inr rfl | assumption) : PG X (.Name x pos) (tT X.K (.n i)) :=
  (pg_name hN hi hx hf).imp fun v σ H Q ⟨φ, n, w, ρ, r, s, ρ1, e, q⟩ => by
    rw [Tg.run] at e
    split at e
    · cases e
      exact q _ (s.set r) fun j hj => by
        rw [List.getElem?_set_ne]
        intro z
        exact hj (by rw [Tg.ids, z]; exact List.mem_singleton.mpr rfl)
    · cases e
theorem rgs_nil : PGs X [] (tTs X.K []) := pgs_nil.imp fun vs σ H Q ⟨φ, n, ws, ρ, r, s, ρ1, e, q⟩ => by
  cases r with
  | nil =>
    rw [Tg.runs] at e
    cases e
    exact ⟨rfl, q _ s fun _ _ => rfl⟩
  | cons _ _ => rw [Tg.runs] at e <;> first | cases e | (intros; simp_all)
theorem rgs_cons {e : Expr} {es : List Expr} {g : Tg} {gs : List Tg} (h1 : PG X e (tT X.K g)) (h2 : PGs X es (tTs X.K gs))
    (hs : (assignEach (e :: es) X.env).map (·.2) = assign e X.env :: (assignEach es X.env).map (·.2) := by rfl) : PGs X (e :: es) (tTs X.K (g :: gs)) :=
  (pgs_cons h1 h2 hs).imp fun vs σ H Q ⟨φ, n, ws, ρ, r, s, ρ1, e, q⟩ => by
    cases r with
    | nil => rw [Tg.runs] at e <;> first | cases e | (intros; simp_all)
    | @cons w v ws vs r0 rr =>
      rw [Tg.runs] at e
      cases e1 : g.run w ρ with
      | none => rw [e1] at e; cases e
      | some ρ2 =>
        rw [e1] at e
        refine ⟨v, vs, rfl, φ, n, w, ρ, r0, s, ρ2, e1, fun σ1 s1 f1 => ⟨φ, n, ws, ρ2, rr, s1, ρ1, e, fun σ2 s2 f2 => q σ2 s2 fun j hj => ?_⟩⟩
        rw [Tg.idss, List.mem_append, not_or] at hj
        rw [f2 j hj.2, f1 j hj.1]
theorem Tg.runs_len : ∀ (gs : List Tg) (ws : List PF.W) (ρ ρ1 : Env), Tg.runs gs ws ρ = some ρ1 → ws.length = gs.length
  | [], [], _, _, _ => rfl
  | [], _ :: _, _, _, e => by simp [Tg.runs] at e
  | _ :: _, [], _, _, e => by simp [Tg.runs] at e
  | g :: gs, w :: ws, ρ, ρ1, e => by
    rw [Tg.runs] at e
    cases e1 : g.run w ρ with
    | none => rw [e1] at e; cases e
    | some ρ2 =>
      rw [e1] at e
      rw [List.length_cons, List.length_cons, Tg.runs_len gs ws ρ2 ρ1 e]
theorem rg_t {es : List Expr} {k : Nat} {gs : List Tg} (hc : X.calm = true) (h : PGs X es (tTs X.K gs))
    (hn : (assignEach es X.env).length = gs.length := by rfl) (hst : (assignEach es X.env).findIdx? (·.1) = none := by rfl) : PG X (.Tuple es k pos) (tT X.K (.t gs)) :=
  (pg_tup (n := gs.length) hc h hn hst).imp fun v σ H Q ⟨φ, n, w, ρ, r, s, ρ1, e, q⟩ => by
    cases r with
    | @tup p vs ws hq rr =>
      rw [Tg.run] at e
      refine ⟨p, vs, rfl, hq, ?_, φ, n, ws, ρ, rr, s, ρ1, e, fun σ1 s1 f1 => q σ1 s1 fun j hj => f1 j (by rw [Tg.ids] at hj; exact hj)⟩
      rw [← rr.length]
      exact Tg.runs_len _ _ _ _ e
    | _ => rw [Tg.run] at e <;> first | cases e | (intros; simp_all)
theorem grow_asg {g : Tg} (hd : Grow d) : GrowS (sAsg d g) := fun ρ h => growsS.onR (hd ρ h) fun w h1 _ l => by
  unfold onO
  split
  · exact l
  · trivial
theorem asg_imp {g : Tg} {tg : TG} (hd : Grow d) (hg : ∀ v σ H Q, tT X.K g v σ H Q → tg v σ H Q) {D : Ends} {σ : L2.St} {H : Hp} (t : tS X.K cls W (sAsg d g) D σ H) : tAsg (tG X.K cls (rW X.K) W d) tg D σ H :=
  t.ok fun φ h ρ x p => x.firstS (hd ρ h) p fun v H1 φ1 w1 h1 g1 x1 p1 => by
    unfold onO at p1
    split at p1
    · rename_i ρ1 e
      exact hg _ _ _ _ ⟨φ1, h1.length, w1, ρ, g1.r, x1.S, ρ1, e, fun σ1 s1 _ => p1 φ1 σ1 H1 (Ext.refl _ _) (Keep.refl _) ⟨g1.C, s1⟩⟩
    · exact p1.elim
theorem rs_asg {tg : Expr} {g : Tg} (he : RE X cls W e d) (hg : PG X tg (tT X.K g)) (hs : swapsWithSole [tg] e pos.line X.env = pure false := by rfl) (hw : swappedStores [tg] e X.env = pure none := by rfl)
    (h1 : (assignEach [tg] X.env).map (·.2) = [assign tg X.env] := by rfl) : RS X cls W (.Assign [tg] e pos) (sAsg d g) :=
  ⟨(ps_asg he.pe hg hs hw h1).imp fun D σ H t => asg_imp he.g (fun _ _ _ _ q => q) t, grow_asg he.g⟩
theorem gname_imp {i : Nat} : ∀ v σ H Q, tT X.K (.n i) v σ H Q → gName i v σ H Q := fun v σ H Q ⟨φ, n, w, ρ, r, s, ρ1, e, q⟩ => by
  rw [Tg.run] at e
  split at e
  · cases e
    exact q _ (s.set r) fun j hj => by
      rw [List.getElem?_set_ne]
      intro z
      exact hj (by rw [Tg.ids, z]; exact List.mem_singleton.mpr rfl)
  · cases e
theorem rs_set (i : Nat) {x : PySem.Str} {pos' : Pos} (hN : X.N.Nodup) (hi : X.N[i]? = some x) (hx : Loc X.env.scope x) (he : RE X cls W e d) (hs : swapsWith e (some (.Name x pos')) pos.line X.env = pure false := by rfl) (hf : X.fn x = true ∨ X.env.scope.names.lookup x = some .local := by first | exact .inl rfl | exact .inr rfl | assumption) :
    RS X cls W (.Assign [.Name x pos'] e pos) (sAsg d (.n i)) :=
  ⟨(ps_set hN hi hx he.pe hs hf).imp fun D σ H t => asg_imp he.g gname_imp t, grow_asg he.g⟩
/-! ### while -/
theorem grow_while {t : T} {b : Sm} (gt : Grow t) (gb : GrowS b) : ∀ n, GrowS (whileF t b n)
  | 0 => fun _ _ => trivial
  | n + 1 => fun ρ h => growsS.onR (gt ρ h) fun c h1 _ l => by
    split
    · have g1 := (gb ρ h1).le l
      revert g1
      cases b ρ h1 with
      | nx ρ2 h2 => exact fun g1 => (grow_while gt gb n ρ2 h2).le g1
      | ct ρ2 h2 => exact fun g1 => (grow_while gt gb n ρ2 h2).le g1
      | _ => exact fun g1 => g1
    · exact l
theorem rs_while {c : Expr} {body : List Stmt} {t : T} (hp : PassesOwn (model X.prog X.w) X.A X.env X.xe) (hc : RT X cls W c t) (hb : RSs X cls W body b) : RS X cls W (.While c body [] pos) (sWhile t b) := by
  refine ⟨(ps_while hp hc.pt hb.ps).imp fun D σ H t0 => t0.ok fun φ h ρ x p => ?_, grow_while hc.g hb.g _⟩
  refine ⟨fun m σ' H' => ∃ φ' h' ρ', At X.K cls φ' h' ρ' σ' H' ∧ PostS X.K cls φ' h'.length H' W D (whileF t b m ρ' h'), ⟨FUEL, φ, h, ρ, x, p⟩, ?_⟩
  rintro m σ1 H1 ⟨φ1, h1, ρ1, x1, p1⟩
  cases m with
  | zero => exact p1.elim
  | succ m =>
    refine x1.firstS (hc.g ρ1 h1) p1 fun v H2 φ2 w2 h2 g2 x2 p2 => ?_
    have e : w2 = v := g2.r
    subst e
    split
    · rename_i e
      rw [if_pos e] at p2
      refine ⟨fun σ' H' => ∃ φ' h' ρ', At X.K cls φ' h' ρ' σ' H' ∧ PostS X.K cls φ' h'.length H' W D (whileF t b m ρ' h'), fun σ' H' q => ⟨m, Nat.lt_succ_self m, q⟩, φ2, h2, ρ1, x2, ?_⟩
      have g3 := hb.g ρ1 h2
      revert g3 p2
      cases b ρ1 h2 with
      | nx ρ3 h3 => exact fun p2 g3 φ' σ' H' e k x' => ⟨φ', h3, ρ3, x', p2.later e g3 k⟩
      | ct ρ3 h3 => exact fun p2 g3 φ' σ' H' e k x' => ⟨φ', h3, ρ3, x', p2.later e g3 k⟩
      | bk ρ3 h3 => exact fun p2 g3 => p2
      | ret w3 h3 => exact fun p2 g3 => p2
      | exc c3 y3 ρ3 h3 => exact fun p2 g3 => p2
      | stuck => exact fun p2 g3 => p2
    · rename_i e
      rw [if_neg e] at p2
      exact p2 φ2 σ1 H2 (Ext.refl _ _) (Keep.refl _) x2
end
end PF
namespace PF
open PySem PySem.Spec PyProof.Rows L2
/-! ### what is walked -/
def Serves (K : PySem.W.Frag) (cls : Cl) : Rl It L2.It := fun φ0 n0 H0 J I => ∀ (φ : Phi) (h : Hs) (H : Hp), Ext φ0 φ n0 → n0 ≤ h.length → Keep H0 H → Cells K cls φ h H → stays J.2 h = true →
  I.stop J.1.length H ∧ ∀ (i : Nat) (w : PF.W), J.1[i]? = some w → I.go i H ∧ ∀ x H', I.yld i H x H' → Keep H H' ∧ Cells K cls φ h H' ∧ VR K φ h.length H' w x
def tI (K : PySem.W.Frag) (cls : Cl) (W : WX) (it : PF.I) : TI := fun σ H R => ∃ φ h ρ, At K cls φ h ρ σ H ∧ Post K cls (Serves K cls) φ h.length H (fun c d H' => W c d σ H') R (it ρ h)
structure RI (X : Cx) (cls : Cl) (W : WX) (tg e : Expr) (it : PF.I) : Prop where
  pi : PI X tg e (tI X.K cls W it)
  g : Grow it
theorem _root_.L2.PI.imp {X : Cx} {tg e : Expr} {t t' : TI} (h : PI X tg e t) (i : ∀ σ H Q, t' σ H Q → t σ H Q) : PI X tg e t' := ⟨fun pins s σ H Q I q => h.run pins s σ H Q I (i _ _ _ q)⟩
section
variable {K : PySem.W.Frag} {cls : Cl} {φ : Phi} {h : Hs} {H : Hp} {w : PF.W} {v : V} {ws : List PF.W}
theorem lstOf_at (C : Cells K cls φ h H) (r : VR K φ h.length H w v) (e : lstOf w h = some ws) : ∃ a vs, v = .ref a ∧ SqL K H a vs ∧ VRs K φ h.length H ws vs := by
  cases r with
  | @ref i hi =>
    unfold lstOf at e
    dsimp only at e
    split at e
    · rename_i ws' e1
      cases e
      obtain ⟨vs, h1, h2⟩ := C.cell i _ e1
      exact ⟨_, vs, rfl, .of h1, h2⟩
    · cases e
  | fl q rr => cases e; exact ⟨_, _, rfl, q.l, rr⟩
  | _ => cases e
theorem stays_cons {p : PF.W × List PF.W} {g : List (PF.W × List PF.W)} (e : stays (p :: g) h = true) : lstOf p.1 h = some p.2 ∧ stays g h = true := by
  unfold stays at e
  rw [List.all_cons, Bool.and_eq_true] at e
  exact ⟨of_decide_eq_true e.1, e.2⟩
end
section
variable {X : Cx} {cls : Cl} {W : WX} {e e2 tg : Expr} {d d2 : PF.D} {p pos tpos : Pos}
theorem grow_lstOf {α : Type} {d : PF.D} {f : PF.W → List PF.W → Hs → Res α} (gd : Grow d) (gf : ∀ w ws h, grows h.length (f w ws h)) : Grow (fun ρ h => (d ρ h).bind fun w h1 => match lstOf w h1 with
  | some ws => f w ws h1
  | none => .stuck) := fun ρ h => (gd ρ h).bind fun w h1 _ l => by
  split
  · exact (gf _ _ _).le l
  · trivial
theorem ri_lst (he : RE X cls W e d) : RI X cls W tg e (iLst d) := by
  refine ⟨(pi_list he.pe).imp fun σ H R t => ?_, grow_lstOf he.g fun _ _ _ => Nat.le_refl _⟩
  obtain ⟨φ, h, ρ, x, p⟩ := t
  refine x.first (he.g ρ h) p fun v H1 φ1 w1 h1 g1 x1 p1 => ?_
  have r1 : VR X.K φ1 h1.length H1 w1 v := g1.r
  split at p1
  · rename_i ws e1
    obtain ⟨a, vs, rfl, hs, hr⟩ := lstOf_at g1.C r1 e1
    refine ⟨a, rfl, ⟨vs, hs⟩, p1 φ1 _ H1 (Ext.refl _ _) (Keep.refl _) g1.C ?_⟩
    intro φ2 h2 H2 e2 l2 k2 C2 st
    obtain ⟨st1, _⟩ := stays_cons st
    obtain ⟨b, us, eb, hs2, hr2⟩ := lstOf_at C2 (r1.mono e2 l2 k2) st1
    cases eb
    refine ⟨⟨us, hs2, by rw [← hr2.length]; exact Nat.le_refl _⟩, fun i w hw => ?_⟩
    obtain ⟨u, hu, ru⟩ := hr2.get hw
    refine ⟨⟨us, u, hs2, hu⟩, fun y H3 hy => ?_⟩
    obtain ⟨rfl, fy⟩ := hy
    have ey := fy us hs2
    rw [hu] at ey
    cases ey
    exact ⟨Keep.refl _, C2, ru⟩
  · exact p1.elim
theorem ri_tup (he : RE X cls W e d) : RI X cls W tg e (iTup d) := by
  refine ⟨(pi_tup he.pe).imp fun σ H R t => ?_, fun ρ h => (he.g ρ h).bind fun w h1 _ l => by split <;> first | exact l | trivial⟩
  obtain ⟨φ, h, ρ, x, p⟩ := t
  refine x.first (he.g ρ h) p fun v H1 φ1 w1 h1 g1 x1 p1 => ?_
  have r1 : VR X.K φ1 h1.length H1 w1 v := g1.r
  split at p1
  · cases r1 with
    | @tup a vs ws hs hr =>
      refine ⟨a, rfl, ⟨vs, hs⟩, p1 φ1 _ H1 (Ext.refl _ _) (Keep.refl _) g1.C ?_⟩
      intro φ2 h2 H2 e2 l2 k2 C2 st
      have hs2 := k2.tup hs
      have hr2 := hr.mono e2 l2 k2
      refine ⟨⟨vs, hs2, by rw [← hr2.length]; exact Nat.le_refl _⟩, fun i w hw => ?_⟩
      obtain ⟨u, hu, ru⟩ := hr2.get hw
      refine ⟨⟨vs, u, hs2, hu⟩, fun y H3 hy => ?_⟩
      obtain ⟨rfl, fy⟩ := hy
      have ey := fy vs hs2
      rw [hu] at ey
      cases ey
      exact ⟨Keep.refl _, C2, ru⟩
  · exact p1.elim
theorem ri_str (he : RE X cls W e d) : RI X cls W tg e (PF.iStr d) := by
  refine ⟨(pi_str he.pe).imp fun σ H R t => ?_, fun ρ h => (he.g ρ h).bind fun w h1 _ l => by split <;> first | exact l | trivial⟩
  obtain ⟨φ, h, ρ, x, p⟩ := t
  refine x.first (he.g ρ h) p fun v H1 φ1 w1 h1 g1 x1 p1 => ?_
  have r1 : VR X.K φ1 h1.length H1 w1 v := g1.r
  split at p1
  · rename_i s
    cases r1 with
    | str _ hok =>
      refine ⟨sS s, rfl, p1 φ1 _ H1 (Ext.refl _ _) (Keep.refl _) g1.C ?_⟩
      intro φ2 h2 H2 e2 l2 k2 C2 st
      have el : (sS s).cps.size = s.length := by simp [sS]
      refine ⟨?_, fun i w hw => ?_⟩
      · show (sS s).cps.size ≤ _
        rw [el, List.length_map]
        exact Nat.le_refl _
      · rw [List.getElem?_map] at hw
        cases hc : s[i]? with
        | none => rw [hc] at hw; cases hw
        | some c =>
          rw [hc] at hw
          cases hw
          refine ⟨?_, fun y H3 hy => ?_⟩
          · show i < (sS s).cps.size
            rw [el]
            exact (List.getElem?_eq_some_iff.mp hc).1
          · obtain ⟨rfl, c', hc', rfl⟩ := hy
            have : (sS s).cps[i]? = s[i]? := by simp [sS]
            rw [this, hc] at hc'
            cases hc'
            exact ⟨Keep.refl _, C2, .str [c] (fun z hz => by rw [List.mem_singleton.mp hz]; exact hok c (List.mem_of_getElem? hc))⟩
  · exact p1.elim
theorem serves_rng {K : PySem.W.Frag} {φ : Phi} {n : Nat} {H : Hp} (lo : Int) (m : Nat) : Serves K cls φ n H (rngW lo m, []) (Itr lo m) := by
  intro φ2 h2 H2 e2 l2 k2 C2 st
  refine ⟨?_, fun i w hw => ?_⟩
  · show m ≤ (rngW lo m).length
    rw [rngW, List.length_map, List.length_range]
    exact Nat.le_refl _
  · have hw : (rngW lo m)[i]? = some w := hw
    rw [rngW, List.getElem?_map] at hw
    by_cases hi : i < m
    · rw [List.getElem?_range hi] at hw
      cases hw
      refine ⟨hi, fun y H3 hy => ?_⟩
      obtain ⟨rfl, rfl⟩ := hy
      exact ⟨Keep.refl _, C2, .int _⟩
    · rw [List.getElem?_eq_none (by rw [List.length_range]; omega)] at hw
      cases hw
theorem At.arg1 {γ δ : Type} {R' : Rl γ δ} {φ : Phi} {h : Hs} {ρ : Env} {σ : L2.St} {H : Hp} {f : PF.W → Hs → Res γ} {Q : δ → Hp → Prop} (x : At X.K cls φ h ρ σ H) (gd : Grow d)
    (p : Post X.K cls R' φ h.length H (fun c d H' => W c d σ H') Q ((d ρ h).bind f)) {Q1 : List V → Hp → Prop}
    (q : ∀ b H1 φ1 a h1, Go X.K cls (rW X.K) φ h.length H φ1 a h1 b H1 → At X.K cls φ1 h1 ρ σ H1 → Post X.K cls R' φ1 h1.length H1 (fun c d H' => W c d σ H') Q (f a h1) → Q1 [b] H1) : tG X.K cls (rWs X.K) W (aCons d aNil) σ H Q1 := by
  refine ⟨φ, h, ρ, x, ?_⟩
  have pb := p.bind (R := rW X.K) (gd ρ h)
  unfold aCons aNil
  revert pb
  cases d ρ h with
  | ok a h1 =>
    intro pb φ' b H' e k C r
    cases r with
    | cons r0 rr =>
      cases rr
      obtain ⟨φ1, a1, h2, g1, p1⟩ := pb φ' _ H' e k C r0
      exact q _ _ φ1 a1 h2 g1 (x.go g1) p1
  | exc c y h1 => exact fun pb => pb
  | stuck => exact fun pb => pb
theorem At.arg2 {γ δ : Type} {R' : Rl γ δ} {φ : Phi} {h : Hs} {ρ : Env} {σ : L2.St} {H : Hp} {f : PF.W → PF.W → Hs → Res γ} {Q : δ → Hp → Prop} (x : At X.K cls φ h ρ σ H) (gd : Grow d) (gd2 : Grow d2)
    (p : Post X.K cls R' φ h.length H (fun c d H' => W c d σ H') Q ((d ρ h).bind fun w h1 => (d2 ρ h1).bind fun u h2 => f w u h2)) {Q1 : List V → Hp → Prop}
    (q : ∀ b c H2 φ2 a u h2, At X.K cls φ2 h2 ρ σ H2 → VR X.K φ2 h2.length H2 a b → VR X.K φ2 h2.length H2 u c → Post X.K cls R' φ2 h2.length H2 (fun c d H' => W c d σ H') Q (f a u h2) → Q1 [b, c] H2) : tG X.K cls (rWs X.K) W (aCons d (aCons d2 aNil)) σ H Q1 := by
  refine ⟨φ, h, ρ, x, ?_⟩
  have g1 := gd ρ h
  unfold aCons aNil
  revert p g1
  cases d ρ h with
  | ok a h1 =>
    have g2 := gd2 ρ h1
    simp only [Res.bind_ok]
    revert g2
    cases d2 ρ h1 with
    | ok u h2 =>
      intro g2 p g1 φ' vs H' e k C r
      have l : h.length ≤ h2.length := Nat.le_trans g1 g2
      cases r with
      | cons r0 rr =>
        cases rr with
        | cons r1 rr =>
          cases rr
          exact q _ _ H' φ' a u h2 ⟨C, x.S.mono e l k⟩ r0 r1 (p.later e l k)
    | exc c y h2 => exact fun _ p _ => p
    | stuck => exact fun _ p _ => p
  | exc c y h1 => exact fun p _ => p
  | stuck => exact fun p _ => p
theorem ri_rng1 (hg : Gl X "range") (hm : X.mg "range" = none) (he : RE X cls W e d) (hs1 : starEach [e] X.env = (false, eval e X.env) :: starEach [] X.env := by rfl) (hs : starEach [e] X.env = [(false, eval e X.env)] := by rfl) : RI X cls W tg (.Call (.Name "range" p) [e] [] pos) (PF.iRng1 d) := by
  refine ⟨(pi_range1 hg hm (ra_cons he ra_nil hs1).pa hs).imp fun σ H R t => ?_, fun ρ h => (he.g ρ h).bind fun w h1 _ l => by
    split
    · split
      · exact l
      · trivial
    · trivial⟩
  obtain ⟨φ, h, ρ, x, p⟩ := t
  refine x.arg1 he.g p fun v H1 φ1 w1 h1 g1 x1 p1 => ?_
  have r1 : VR X.K φ1 h1.length H1 w1 v := g1.r
  split at p1
  · split at p1
    · rename_i hj
      cases r1
      exact ⟨_, rfl, hj.1, hj.2, p1 φ1 _ H1 (Ext.refl _ _) (Keep.refl _) g1.C (serves_rng _ _)⟩
    · exact p1.elim
  · exact p1.elim
theorem ri_rng2 (hg : Gl X "range") (hm : X.mg "range" = none) (he : RE X cls W e d) (he2 : RE X cls W e2 d2) (hs1 : starEach [e, e2] X.env = (false, eval e X.env) :: starEach [e2] X.env := by rfl) (hs1' : starEach [e2] X.env = (false, eval e2 X.env) :: starEach [] X.env := by rfl)
    (hs : starEach [e, e2] X.env = [(false, eval e X.env), (false, eval e2 X.env)] := by rfl) (hs2 : starEach [e2] X.env = [(false, eval e2 X.env)] := by rfl) : RI X cls W tg (.Call (.Name "range" p) [e, e2] [] pos) (PF.iRng2 d d2) := by
  refine ⟨(pi_range2 hg hm (ra_cons he (ra_cons he2 ra_nil hs1') hs1).pa hs hs2).imp fun σ H R t => ?_, fun ρ h => (he.g ρ h).bind fun w h1 _ l => ((he2.g ρ h1).le l).bind fun w h1 _ l => by
    split
    · split
      · exact l
      · trivial
    · trivial⟩
  obtain ⟨φ, h, ρ, x, p⟩ := t
  refine x.arg2 he.g he2.g p fun v u H1 φ1 w1 w2 h1 x1 r1 r2 p1 => ?_
  split at p1
  · split at p1
    · rename_i hj
      cases r1
      cases r2
      exact ⟨_, _, rfl, ⟨hj.1.1, hj.1.2, hj.2.1, hj.2.2⟩, p1 φ1 _ H1 (Ext.refl _ _) (Keep.refl _) x1.C (serves_rng _ _)⟩
    · exact p1.elim
  · exact p1.elim
theorem enumW_get : ∀ (ws : List PF.W) (k i : Nat), (enumW k ws)[i]? = (ws[i]?).map fun w => .tup [.int ((k + i : Nat) : Int), w]
  | [], _, _ => by simp [enumW]
  | w :: ws, k, 0 => by simp [enumW]
  | w :: ws, k, i + 1 => by
    rw [enumW, List.getElem?_cons_succ, List.getElem?_cons_succ, enumW_get ws (k + 1) i, show k + 1 + i = k + (i + 1) by omega]
theorem enumW_len : ∀ (ws : List PF.W) (k : Nat), (enumW k ws).length = ws.length
  | [], _ => rfl
  | w :: ws, k => by rw [enumW, List.length_cons, List.length_cons, enumW_len]
theorem zipW_get : ∀ (ws us : List PF.W) (i : Nat) (z : PF.W), (zipW ws us)[i]? = some z → ∃ w u, z = .tup [w, u] ∧ ws[i]? = some w ∧ us[i]? = some u
  | [], _, _, _, e => by simp [zipW] at e
  | _ :: _, [], _, _, e => by simp [zipW] at e
  | w :: ws, u :: us, 0, z, e => by
    simp [zipW] at e
    exact ⟨w, u, e.symm, rfl, rfl⟩
  | w :: ws, u :: us, i + 1, z, e => by
    rw [zipW, List.getElem?_cons_succ] at e
    exact zipW_get ws us i z e
theorem zipW_len : ∀ (ws us : List PF.W), (zipW ws us).length = min ws.length us.length
  | [], _ => by simp [zipW]
  | _ :: _, [] => by simp [zipW]
  | w :: ws, u :: us => by rw [zipW, List.length_cons, List.length_cons, List.length_cons, zipW_len]; omega
theorem ri_enum {elts : List Expr} {kk : Nat} (hg : Gl X "enumerate") (hm : X.mg "enumerate" = none) (he : RE X cls W e d) (hs1 : starEach [e] X.env = (false, eval e X.env) :: starEach [] X.env := by rfl) (hs : starEach [e] X.env = [(false, eval e X.env)] := by rfl) :
    RI X cls W (.Tuple elts kk tpos) (.Call (.Name "enumerate" p) [e] [] pos) (PF.iEnum d) := by
  refine ⟨(pi_enum hg hm (ra_cons he ra_nil hs1).pa hs).imp fun σ H R t => ?_, grow_lstOf he.g fun _ _ _ => Nat.le_refl _⟩
  obtain ⟨φ, h, ρ, x, p⟩ := t
  refine x.arg1 he.g p fun v H1 φ1 w1 h1 g1 x1 p1 => ?_
  have r1 : VR X.K φ1 h1.length H1 w1 v := g1.r
  split at p1
  · rename_i ws e1
    obtain ⟨a, vs, rfl, hs, hr⟩ := lstOf_at g1.C r1 e1
    refine ⟨a, vs, rfl, hs, p1 φ1 _ H1 (Ext.refl _ _) (Keep.refl _) g1.C ?_⟩
    intro φ2 h2 H2 e2 l2 k2 C2 st
    obtain ⟨st1, _⟩ := stays_cons st
    obtain ⟨b, us, eb, hs2, hr2⟩ := lstOf_at C2 (r1.mono e2 l2 k2) st1
    cases eb
    refine ⟨⟨us, hs2, by rw [enumW_len, ← hr2.length]; exact Nat.le_refl _⟩, fun i z hz => ?_⟩
    have hz : (enumW 0 ws)[i]? = some z := hz
    rw [enumW_get] at hz
    cases hw : ws[i]? with
    | none => rw [hw] at hz; cases hz
    | some w =>
      rw [hw] at hz
      cases hz
      obtain ⟨u, hu, ru⟩ := hr2.get hw
      refine ⟨⟨us, u, hs2, hu⟩, fun y H3 hy => ?_⟩
      obtain ⟨T, x', rfl, hT, rfl, fy⟩ := hy
      have ey := fy us hs2
      rw [hu] at ey
      cases ey
      refine ⟨keep_new hT, C2.other hT, .tup (.inl (.inl upd_same)) (.cons ?_ (.cons (ru.mono (Ext.refl _ _) (Nat.le_refl _) (keep_new hT)) .nil))⟩
      rw [Nat.zero_add]
      exact .int _
  · exact p1.elim
theorem ri_zip {elts : List Expr} {kk : Nat} (hg : Gl X "zip") (hm : X.mg "zip" = none) (he : RE X cls W e d) (he2 : RE X cls W e2 d2) (hs1' : starEach [e2] X.env = (false, eval e2 X.env) :: starEach [] X.env := by rfl)
    (hs : starEach [e, e2] X.env = (false, eval e X.env) :: starEach [e2] X.env := by rfl) (hpl : (backTo pos (starEach [e2] X.env)).any (·.1) = false := by rfl) :
    RI X cls W (.Tuple elts kk tpos) (.Call (.Name "zip" p) [e, e2] [] pos) (PF.iZip d d2) := by
  refine ⟨(pi_zip hg hm (ra_cons he (ra_cons he2 ra_nil hs1') hs).pa hs hpl).imp fun σ H R t => ?_, fun ρ h => (he.g ρ h).bind fun w h1 _ l => ((he2.g ρ h1).le l).bind fun w h1 _ l => by
    split
    · exact l
    · trivial⟩
  obtain ⟨φ, h, ρ, x, p⟩ := t
  refine x.arg2 he.g he2.g p fun v u H1 φ1 w1 w2 h1 x1 r1 r2 p1 => ?_
  split at p1
  · rename_i ws us e1 e2
    obtain ⟨a, vs, rfl, hsa, hra⟩ := lstOf_at x1.C r1 e1
    obtain ⟨b, vb, rfl, hsb, hrb⟩ := lstOf_at x1.C r2 e2
    refine ⟨a, b, vs, vb, rfl, hsa, hsb, p1 φ1 _ H1 (Ext.refl _ _) (Keep.refl _) x1.C ?_⟩
    intro φ2 h2 H2 e2 l2 k2 C2 st
    obtain ⟨st1, st⟩ := stays_cons st
    obtain ⟨st2, _⟩ := stays_cons st
    obtain ⟨a', us1, eb, hs2, hr2⟩ := lstOf_at C2 (r1.mono e2 l2 k2) st1
    cases eb
    obtain ⟨b', us2, eb, hs3, hr3⟩ := lstOf_at C2 (r2.mono e2 l2 k2) st2
    cases eb
    refine ⟨⟨us1, us2, hs2, hs3, ?_⟩, fun i z hz => ?_⟩
    · show us1.length ≤ (zipW ws us).length ∨ us2.length ≤ (zipW ws us).length
      have q1 : ws.length = us1.length := hr2.length
      have q2 : us.length = us2.length := hr3.length
      rw [zipW_len]
      omega
    obtain ⟨w, u, rfl, hw, hu⟩ := zipW_get _ _ _ _ hz
    obtain ⟨x', hx', rx⟩ := hr2.get hw
    obtain ⟨y', hy', ry⟩ := hr3.get hu
    refine ⟨⟨us1, us2, x', y', hs2, hs3, hx', hy'⟩, fun y H3 hy => ?_⟩
    obtain ⟨T, x2, y2, rfl, hT, rfl, f1, f2⟩ := hy
    have e1 := f1 _ hs2
    rw [hx'] at e1
    cases e1
    have e2 := f2 _ hs3
    rw [hy'] at e2
    cases e2
    exact ⟨keep_new hT, C2.other hT, .tup (.inl (.inl upd_same)) (.cons (rx.mono (Ext.refl _ _) (Nat.le_refl _) (keep_new hT)) (.cons (ry.mono (Ext.refl _ _) (Nat.le_refl _) (keep_new hT)) .nil))⟩
  · exact p1.elim
theorem ri_rev (hg : Gl X "reversed") (hm : X.mg "reversed" = none) (he : RE X cls W e d) (hs1 : starEach [e] X.env = (false, eval e X.env) :: starEach [] X.env := by rfl) (hs : starEach [e] X.env = [(false, eval e X.env)] := by rfl) :
    RI X cls W tg (.Call (.Name "reversed" p) [e] [] pos) (PF.iRev d) := by
  refine ⟨(pi_reversed hg hm (ra_cons he ra_nil hs1).pa hs).imp fun σ H R t => ?_, grow_lstOf he.g fun _ _ _ => Nat.le_refl _⟩
  obtain ⟨φ, h, ρ, x, p⟩ := t
  refine x.arg1 he.g p fun v H1 φ1 w1 h1 g1 x1 p1 => ?_
  have r1 : VR X.K φ1 h1.length H1 w1 v := g1.r
  split at p1
  · rename_i ws e1
    obtain ⟨a, vs, rfl, hs, hr⟩ := lstOf_at g1.C r1 e1
    refine ⟨a, vs, rfl, hs, p1 φ1 _ H1 (Ext.refl _ _) (Keep.refl _) g1.C ?_⟩
    intro φ2 h2 H2 e2 l2 k2 C2 st
    obtain ⟨st1, _⟩ := stays_cons st
    obtain ⟨b, us, eb, hs2, hr2⟩ := lstOf_at C2 (r1.mono e2 l2 k2) st1
    cases eb
    have el : us.length = vs.length := by rw [← hr2.length, ← hr.length]
    refine ⟨?_, fun i w hw => ?_⟩
    · show vs.length ≤ ws.reverse.length
      rw [List.length_reverse, hr.length]
      exact Nat.le_refl _
    have hw : ws.reverse[i]? = some w := hw
    have hi : i < ws.length := by
      have := (List.getElem?_eq_some_iff.mp hw).1
      rwa [List.length_reverse] at this
    rw [List.getElem?_reverse hi] at hw
    obtain ⟨u, hu, ru⟩ := hr2.get hw
    have en : ws.length - 1 - i = vs.length - 1 - i := by rw [hr.length]
    rw [en] at hu
    refine ⟨⟨by rw [← hr.length]; exact hi, us, u, hs2, hu⟩, fun y H3 hy => ?_⟩
    obtain ⟨rfl, fy⟩ := hy
    have ey := fy us hs2
    rw [hu] at ey
    cases ey
    exact ⟨Keep.refl _, C2, ru⟩
  · exact p1.elim
theorem _root_.L2.PI.or {X : Cx} {tg e : Expr} {t t' : TI} (h : PI X tg e t) (h' : PI X tg e t') : PI X tg e (fun σ H R => t σ H R ∨ t' σ H R) := ⟨fun pins s σ H Q I q => q.elim (h.run pins s σ H Q I) (h'.run pins s σ H Q I)⟩
theorem gi_any (ga : Grow d) : Grow (PF.iAny d) := fun ρ h => (ga ρ h).bind fun w h1 _ l => by
  split
  · exact l
  · exact l
  · exact l
  · split
    · exact l
    · trivial
  · trivial
theorem ri_any (he : RE X cls W e d) : RI X cls W tg e (PF.iAny d) := by
  refine ⟨(((ri_lst he).pi.or (ri_tup he).pi).or (ri_str he).pi).imp fun σ H R t => ?_, gi_any he.g⟩
  obtain ⟨φ, h, ρ, x, p⟩ := t
  unfold PF.iAny at p
  cases hd : d ρ h with
  | exc c y h1 =>
    rw [hd] at p
    exact .inl (.inl ⟨φ, h, ρ, x, by unfold iLst; rw [hd]; exact p⟩)
  | stuck => rw [hd] at p; exact p.elim
  | ok w h1 =>
    rw [hd] at p
    cases w with
    | tup ws => exact .inl (.inr ⟨φ, h, ρ, x, by unfold PF.iTup; rw [hd]; exact p⟩)
    | str s => exact .inr ⟨φ, h, ρ, x, by unfold PF.iStr; rw [hd]; exact p⟩
    | fl ws => exact .inl (.inl ⟨φ, h, ρ, x, by unfold iLst; rw [hd]; exact p⟩)
    | ref i =>
      refine .inl (.inl ⟨φ, h, ρ, x, ?_⟩)
      unfold iLst
      rw [hd]
      revert p
      show Post _ _ _ _ _ _ _ _ (match h1[i]? with
        | some (.lst ws) => .ok (ws, [(PF.W.ref i, ws)]) h1
        | _ => .stuck) → Post _ _ _ _ _ _ _ _ (match lstOf (.ref i) h1 with
        | some ws => .ok (ws, [(PF.W.ref i, ws)]) h1
        | none => .stuck)
      unfold lstOf
      dsimp only
      cases h1[i]? with
      | none => exact fun p => p
      | some c => cases c <;> exact fun p => p
    | _ => exact p.elim
end
end PF
namespace PF
open PySem PySem.Spec PyProof.Rows L2
/-! ### for -/
theorem growS_onO {n : Nat} {o : Option Env} {k : Env → Out} (h : ∀ ρ, growsS n (k ρ)) : growsS n (onO o k) := by
  unfold onO
  split
  · exact h _
  · trivial
theorem grow_forL {g : List (PF.W × List PF.W)} {tg : Tg} {b : Sm} (gb : GrowS b) : ∀ ws, GrowS (forL g tg b ws)
  | [] => fun ρ h => by
    rw [forL]
    split
    · exact Nat.le_refl _
    · trivial
  | w :: ws => fun ρ h => by
    rw [forL]
    split
    · refine growS_onO fun ρ1 => ?_
      have g1 := gb ρ1 h
      revert g1
      cases b ρ1 h with
      | nx ρ2 h2 => exact fun g1 => (grow_forL gb ws ρ2 h2).le g1
      | ct ρ2 h2 => exact fun g1 => (grow_forL gb ws ρ2 h2).le g1
      | _ => exact fun g1 => g1
    · trivial
section
variable {X : Cx} {cls : Cl} {W : WX} {e tg : Expr} {body : List Stmt} {b : Sm} {it : PF.I} {g : Tg} {pos : Pos}
theorem rs_for (hp : PassesOwn (model X.prog X.w) X.A X.env X.xe) (hc : X.calm = true) (hi : RI X cls W tg e it) (hg : PG X tg (tT X.K g)) (hb : RSs X cls W body b)
    (hs : ∀ x, foldedSetIterable e X.env x = pure x := by intro _; rfl) : RS X cls W (.For tg e body [] pos) (sFor it g b) := by
  refine ⟨(ps_for hp hc hi.pi hg hb.ps hs).imp fun D σ H t => t.ok fun φ h ρ x p => ?_, fun ρ h => growsS.onR (hi.g ρ h) fun J h1 _ l => (grow_forL hb.g _ ρ h1).le l⟩
  refine ⟨φ, h, ρ, x, ?_⟩
  have gi := hi.g ρ h
  unfold sFor at p
  revert p gi
  cases it ρ h with
  | exc c y h1 => exact fun p gi φ' d H' e k C r => p φ' d σ H' e k ⟨C, x.S.mono e gi k⟩ r
  | stuck => exact fun p _ => p
  | ok J h1 =>
    intro p l1 φ1 J' H1 e1 k1 C1 sv
    obtain ⟨ws, gd⟩ := J
    have x1 : At X.K cls φ1 h1 ρ σ H1 := ⟨C1, x.S.mono e1 l1 k1⟩
    have p1 := PostS.later p e1 l1 k1
    refine ⟨fun i m σ2 H2 => m = ws.length - i ∧ i ≤ ws.length ∧ ∃ φ2 h2 ρ2, Ext φ1 φ2 h1.length ∧ h1.length ≤ h2.length ∧ Keep H1 H2 ∧ At X.K cls φ2 h2 ρ2 σ2 H2 ∧ PostS X.K cls φ2 h2.length H2 W D (forL gd g b (ws.drop i) ρ2 h2), ⟨ws.length, by omega, Nat.zero_le _, φ1, h1, ρ, Ext.refl _ _, Nat.le_refl _, Keep.refl _, x1, by rw [List.drop_zero]; exact p1⟩, ?_⟩
    rintro i m σ2 H2 ⟨rfl, hi2, φ2, h2, ρ2, e2, l2, k2, x2, p2⟩
    by_cases hlt : i < ws.length
    · rw [List.drop_eq_getElem_cons hlt, forL] at p2
      split at p2
      · rename_i hst
        obtain ⟨_, go⟩ := sv φ2 h2 H2 e2 l2 k2 x2.C hst
        obtain ⟨g1, g2⟩ := go i ws[i] (List.getElem?_eq_getElem hlt)
        refine .inr ⟨g1, fun σ' H' => i + 1 ≤ ws.length ∧ ∃ φ2 h2 ρ2, Ext φ1 φ2 h1.length ∧ h1.length ≤ h2.length ∧ Keep H1 H' ∧ At X.K cls φ2 h2 ρ2 σ' H' ∧ PostS X.K cls φ2 h2.length H' W D (forL gd g b (ws.drop (i + 1)) ρ2 h2), fun σ' H' q => ⟨ws.length - (i + 1), by omega, rfl, q⟩, fun y H3 hy => ?_⟩
        obtain ⟨k3, C3, r3⟩ := g2 y H3 hy
        unfold onO at p2
        split at p2
        · rename_i ρ3 e3
          refine ⟨φ2, h2.length, ws[i], ρ2, r3, x2.S.mono (Ext.refl _ _) (Nat.le_refl _) k3, ρ3, e3, fun σ3 s3 _ => ⟨φ2, h2, ρ3, ⟨C3, s3⟩, ?_⟩⟩
          have p3 := PostS.later p2 (Ext.refl _ _) (Nat.le_refl _) k3
          dsimp only at p3
          have g4 := hb.g ρ3 h2
          revert g4 p3
          cases b ρ3 h2 with
          | nx ρ4 h4 => exact fun p3 g4 φ4 σ4 H4 e4 k4 x4 => ⟨hlt, φ4, h4, ρ4, e2.trans e4 l2, Nat.le_trans l2 g4, (k2.trans k3).trans k4, x4, PostS.later p3 e4 g4 k4⟩
          | ct ρ4 h4 => exact fun p3 g4 φ4 σ4 H4 e4 k4 x4 => ⟨hlt, φ4, h4, ρ4, e2.trans e4 l2, Nat.le_trans l2 g4, (k2.trans k3).trans k4, x4, PostS.later p3 e4 g4 k4⟩
          | bk ρ4 h4 => exact fun p3 g4 => p3
          | ret w4 h4 => exact fun p3 g4 => p3
          | exc c4 y4 ρ4 h4 => exact fun p3 g4 => p3
          | stuck => exact fun p3 g4 => p3
        · exact p2.elim
      · exact p2.elim
    · have ei : i = ws.length := by omega
      subst ei
      rw [List.drop_length, forL] at p2
      split at p2
      · rename_i hst
        obtain ⟨st, _⟩ := sv φ2 h2 H2 e2 l2 k2 x2.C hst
        exact .inl ⟨st, p2 φ2 σ2 H2 (Ext.refl _ _) (Keep.refl _) x2⟩
      · exact p2.elim
/-! ### a comprehension -/
structure RTs (X : Cx) (cls : Cl) (W : WX) (e : List Expr) (d : T) : Prop where
  pt : PTs X e (tG X.K cls rB W d)
  g : Grow d
theorem _root_.L2.PTs.imp {X : Cx} {e : List Expr} {t t' : TT} (h : PTs X e t) (i : ∀ σ H Q, t' σ H Q → t σ H Q) : PTs X e t' := ⟨fun pins s σ H Q I q => h.run pins s σ H Q I (i _ _ _ q)⟩
theorem rts_nil : RTs X cls W [] PF.tYes := ⟨pts_nil.imp fun σ H Q t => t.ok fun φ h ρ x p => p φ _ H (Ext.refl _ _) (Keep.refl _) x.C rfl, fun _ _ => Nat.le_refl _⟩
theorem rts_one {c : Expr} {t : T} (h : RT X cls W c t) : RTs X cls W [c] t := ⟨pts_one h.pt, h.g⟩
abbrev W0 : WX := fun _ _ _ _ => False
theorem wipe_eq {σ1 σ : L2.St} : ∀ {own : List Nat}, σ1.length = σ.length → (∀ j, j ∉ own → σ1[j]? = σ[j]?) → L2.wipe σ1 own = L2.wipe σ own := fun {own} hl hf => by
  apply List.ext_getElem?
  intro j
  have key : ∀ (own : List Nat) (τ : L2.St), (L2.wipe τ own)[j]? = if j ∈ own then (if j < τ.length then some none else none) else τ[j]? := by
    intro own
    induction own with
    | nil => intro τ; simp [L2.wipe]
    | cons i is ih =>
      intro τ
      rw [L2.wipe, List.getElem?_set, ih τ, wipe_length]
      by_cases e : i = j
      · subst e
        simp
      · rw [if_neg e]
        have : (j ∈ i :: is) = (j ∈ is) := by
          rw [List.mem_cons]
          exact propext ⟨fun z => z.resolve_left fun y => e y.symm, .inr⟩
        simp only [this]
  rw [key own σ1, key own σ, hl]
  by_cases e : j ∈ own
  · rw [if_pos e, if_pos e]
  · rw [if_neg e, if_neg e, hf j e]
theorem wipe_wipe (σ : L2.St) (own : List Nat) : L2.wipe (L2.wipe σ own) own = L2.wipe σ own := by
  refine wipe_eq (wipe_length _ _) fun j hj => ?_
  induction own with
  | nil => rfl
  | cons i is ih =>
    rw [L2.wipe, List.getElem?_set_ne (fun z => hj (by rw [z]; exact List.mem_cons_self)), ih fun z => hj (List.mem_cons_of_mem _ z)]
theorem grow_compL {gd : List (PF.W × List PF.W)} {dl : Nat} {g : Tg} {t : T} {e : PF.D} (gt : Grow t) (ge : Grow e) : ∀ ws, Grow (compL gd dl g t e ws)
  | [] => fun ρ h => by
    rw [compL]
    split
    · exact Nat.le_refl _
    · trivial
  | w :: ws => fun ρ h => by
    rw [compL]
    split
    · split
      · refine (gt _ h).noX.bind fun c h1 _ l1 => ?_
        split
        · refine ((ge _ h1).noX.le l1).bind fun y h2 _ l2 => ?_
          split
          · split
            · rename_i acc _ _
              exact (grow_compL gt ge ws ρ (h2.set dl (.lst (acc ++ [y])))).le (by rw [List.length_set]; exact l2)
            · trivial
          · trivial
        · exact (grow_compL gt ge ws ρ h1).le l1
      · trivial
    · trivial
theorem grow_comp {t : T} {d : PF.D} {own : List Nat} (gi : Grow it) (gt : Grow t) (ge : Grow d) : Grow (dComp it g t d own) := fun ρ h => (gi ρ h).bind fun J h1 _ l => (grow_compL gt ge _ _ _).le (by rw [List.length_append]; omega)
theorem comp_imp {t : T} {d : PF.D} {own : List Nat} {tt : TT} {te : TE} {tg : TG} (gi : Grow it) (gt : Grow t) (ge : Grow d) (hown : ∀ j, j ∈ g.ids → j ∈ own)
    (htg : ∀ v σ H Q, tT X.K g v σ H Q → tg v σ H Q) (htt : ∀ σ H Q, tG X.K cls rB W0 t σ H Q → tt σ H Q) (hte : ∀ σ H Q, tG X.K cls (rW X.K) W0 d σ H Q → te σ H Q) {σ : L2.St} {H : Hp} {Q : VK} (t0 : tG X.K cls (rW X.K) W (dComp it g t d own) σ H Q) : tLc (tI X.K cls W it) tg tt te own σ H Q := by
  obtain ⟨φ, h, ρ, x, p⟩ := t0
  refine ⟨φ, h, ρ, x, (p.bind (R := Serves X.K cls) (gi ρ h)).mono ?_⟩
  rintro J' H1 ⟨φ1, ⟨ws, gd⟩, h1, g1, p1⟩ D hD
  have x1 : At X.K cls φ1 h1 ρ σ H1 := x.go g1
  have sv : Serves X.K cls φ1 h1.length H1 (ws, gd) J' := g1.r
  have kD := keep_new (o := .lst []) hD
  have CD : Cells X.K cls (put φ1 h1.length D) (h1 ++ [.lst []]) (upd H1 D (.lst [])) := x1.C.new hD ⟨[], upd_same, .nil⟩
  have eD : Ext φ1 (put φ1 h1.length D) h1.length := put_ext _ _ _
  have lD : (h1 ++ [Cell.lst []]).length = h1.length + 1 := by rw [List.length_append]; rfl
  -- the invariant
  refine ⟨fun i m H2 => m = ws.length - i ∧ i ≤ ws.length ∧ ∃ φ2 h2, Ext (put φ1 h1.length D) φ2 (h1.length + 1) ∧ h1.length + 1 ≤ h2.length ∧ Keep H1 H2 ∧ Cells X.K cls φ2 h2 H2 ∧ Post X.K cls (rW X.K) φ2 h2.length H2 (fun c d H' => W c d σ H') Q (compL gd h1.length g t d (ws.drop i) (PF.wipe ρ own) h2),
    ⟨ws.length, by omega, Nat.zero_le _, _, _, Ext.refl _ _, by rw [lD]; exact Nat.le_refl _, kD, CD, by rw [List.drop_zero]; exact p1.later eD (by rw [lD]; omega) kD⟩, ?_⟩
  rintro i m H2 ⟨rfl, hi2, φ2, h2, e2, l2, k2, C2, p2⟩
  have e12 : Ext φ1 φ2 h1.length := eD.trans e2 (Nat.le_succ _)
  have l12 : h1.length ≤ h2.length := by omega
  have eDa : φ2 h1.length = D := by rw [e2.ix _ (Nat.lt_succ_self _), put_at]
  have xw : At X.K cls φ2 h2 (PF.wipe ρ own) (L2.wipe σ own) H2 := ⟨C2, wipe_slots (x1.S.mono e12 l12 k2) own⟩
  by_cases hlt : i < ws.length
  · rw [List.drop_eq_getElem_cons hlt, compL] at p2
    split at p2
    · rename_i hst
      obtain ⟨_, go⟩ := sv φ2 h2 H2 e12 l12 k2 C2 hst
      obtain ⟨g3, g4⟩ := go i ws[i] (List.getElem?_eq_getElem hlt)
      refine .inr ⟨g3, fun H' => i + 1 ≤ ws.length ∧ ∃ φ2 h2, Ext (put φ1 h1.length D) φ2 (h1.length + 1) ∧ h1.length + 1 ≤ h2.length ∧ Keep H1 H' ∧ Cells X.K cls φ2 h2 H' ∧ Post X.K cls (rW X.K) φ2 h2.length H' (fun c d H' => W c d σ H') Q (compL gd h1.length g t d (ws.drop (i + 1)) (PF.wipe ρ own) h2), fun H' q => ⟨ws.length - (i + 1), by omega, rfl, q⟩, fun y H3 hy => ?_⟩
      obtain ⟨k3, C3, r3⟩ := g4 y H3 hy
      split at p2
      · rename_i ρ3 e3
        refine htg _ _ _ _ ⟨φ2, h2.length, ws[i], PF.wipe ρ own, r3, xw.S.mono (Ext.refl _ _) (Nat.le_refl _) k3, ρ3, e3, fun σ3 s3 f3 => ⟨?_, ?_⟩⟩
        · rw [← wipe_wipe σ own]
          refine wipe_eq ?_ fun j hj => f3 j fun z => hj (hown j z)
          rw [← s3.1]
          have s4 := xw.S.1
          have : ∀ (g : Tg) (w : PF.W) (ρ ρ1 : Env), g.run w ρ = some ρ1 → ρ1.length = ρ.length := by
            have key : ∀ n (g : Tg), sizeOf g ≤ n → ∀ (w : PF.W) (ρ ρ1 : Env), g.run w ρ = some ρ1 → ρ1.length = ρ.length := by
              intro n
              induction n with
              | zero => intro g hg; cases g <;> simp at hg
              | succ n ih =>
                intro g hg w ρ ρ1 e
                cases g with
                | n i =>
                  rw [Tg.run] at e
                  split at e
                  · cases e; rw [List.length_set]
                  · cases e
                | t gs =>
                  cases w with
                  | tup ws =>
                    rw [Tg.run] at e
                    have hgs : sizeOf gs ≤ n := by simp at hg; omega
                    clear hg
                    induction gs generalizing ws ρ with
                    | nil =>
                      cases ws with
                      | nil => rw [Tg.runs] at e; cases e; rfl
                      | cons _ _ => simp [Tg.runs] at e
                    | cons g0 gs ih2 =>
                      cases ws with
                      | nil => simp [Tg.runs] at e
                      | cons w0 ws =>
                        rw [Tg.runs] at e
                        cases e1 : g0.run w0 ρ with
                        | none => rw [e1] at e; cases e
                        | some ρ2 =>
                          rw [e1] at e
                          simp at hgs
                          rw [ih2 ρ2 ws e (by omega), ih g0 (by omega) w0 ρ ρ2 e1]
                  | _ => simp [Tg.run] at e
            exact fun g => key _ g (Nat.le_refl _)
          rw [this _ _ _ _ e3, s4]
        · have x3 : At X.K cls φ2 h2 ρ3 σ3 H3 := ⟨C3, s3⟩
          have p3 := Post.later p2 (Ext.refl _ _) (Nat.le_refl _) k3
          refine htt _ _ _ ⟨φ2, h2, ρ3, x3, Post.noX ((p3.bind (R := rB) (gt ρ3 h2).noX).mono ?_)⟩
          rintro c H4 ⟨φ4, c', h4, g4, p4⟩
          have ec : c' = c := g4.r
          subst ec
          have x4 : At X.K cls φ4 h4 ρ3 σ3 H4 := x3.go g4
          split
          · rename_i ec
            rw [if_pos ec] at p4
            refine hte _ _ _ ⟨φ4, h4, ρ3, x4, Post.noX ((p4.bind (R := rW X.K) (ge ρ3 h4).noX).mono ?_)⟩
            rintro y5 H5 ⟨φ5, y', h5, g5, p5⟩
            have e25 : Ext φ2 φ5 h2.length := Ext.trans g4.e g5.e g4.l
            have l25 : h2.length ≤ h5.length := Nat.le_trans g4.l g5.l
            have eDa5 : φ5 h1.length = D := by rw [e25.ix _ (by omega), eDa]
            split at p5
            · rename_i acc ea
              split at p5
              · rename_i hacc
                obtain ⟨vs, hv1, hv2⟩ := g5.C.cell _ _ ea
                rw [eDa5] at hv1
                have hl5 : h1.length < h5.length := by omega
                have kk : Keep H5 (upd H5 D (.lst (vs ++ [y5]))) := keep_set hv1 fun z => z
                refine ⟨vs, hv1, by rw [← hv2.length, ← bigL_eq]; exact hacc, hlt, φ5, h5.set h1.length (.lst (acc ++ [y'])), ?_, by rw [List.length_set]; omega, ?_, ?_, ?_⟩
                · exact Ext.trans e2 (e25.le l2) (Nat.le_refl _)
                · exact ((((k2.trans k3).trans g4.k).trans g5.k).trans kk)
                · have cc := g5.C.chg (o := .lst (vs ++ [y5])) (c := .lst (acc ++ [y'])) hl5 (by
                    rw [eDa5]
                    exact ⟨vs ++ [y5], upd_same, (VRs.snoc hv2 g5.r).mono (Ext.refl _ _) (Nat.le_refl _) kk⟩)
                  rw [eDa5] at cc
                  exact cc
                · exact Post.later p5 (Ext.refl _ _) (by rw [List.length_set]; exact Nat.le_refl _) kk
              · exact p5.elim
            · exact p5.elim
          · rename_i ec
            rw [if_neg ec] at p4
            refine ⟨hlt, φ4, h4, Ext.trans e2 (g4.e.le l2) (Nat.le_refl _), Nat.le_trans l2 g4.l, (k2.trans k3).trans g4.k, x4.C, p4⟩
      · exact p2.elim
    · exact p2.elim
  · have ei : i = ws.length := by omega
    subst ei
    rw [List.drop_length, compL] at p2
    split at p2
    · rename_i hst
      obtain ⟨st, _⟩ := sv φ2 h2 H2 e12 l12 k2 C2 hst
      refine .inl ⟨st, ?_⟩
      have := p2 φ2 (.ref D) H2 (Ext.refl _ _) (Keep.refl _) C2
      refine this ?_
      rw [← eDa]
      exact .ref (by omega)
    · exact p2.elim
end
end PF
namespace PF
open PySem PySem.Spec PyProof.Rows L2
section
variable {X : Cx} {cls : Cl} {W : WX}
theorem re_comp {elt tg iter : Expr} {ifs : List Expr} {scope : Scope} {own : List (PySem.Str × Nat)} {pos : Pos} {it : PF.I} {g : Tg} {t : T} {d : PF.D} (hc : X.calm = true) (hN : X.N.Nodup) (hi : RI X cls W tg iter it) (ok : BlkOk X.N X.env.scope scope own)
    (hg : ∀ (s : Shared) (H : Hp) (C : Addr) (cl : List (PySem.Str × Addr)) (fp : List Addr), PG (X.blk s H scope (compEnvC scope cl C X.env) fp) tg (tT X.K g))
    (ht : ∀ (s : Shared) (H : Hp) (C : Addr) (cl : List (PySem.Str × Addr)) (fp : List Addr), RTs (X.blk s H scope (compEnvC scope cl C X.env) fp) cls W0 ifs t)
    (he : ∀ (s : Shared) (H : Hp) (C : Addr) (cl : List (PySem.Str × Addr)) (fp : List Addr), RE (X.blk s H scope (compEnvC scope cl C X.env) fp) cls W0 elt d)
    (gt : Grow t) (ge : Grow d) (hown : ∀ j, j ∈ g.ids → j ∈ own.map (·.2)) (hs : ∀ x, foldedSetIterable iter X.env x = pure x := by intro _; rfl) :
    RE X cls W (.ListComp elt [⟨tg, iter, ifs, 0⟩] scope pos) (dComp it g t d (own.map (·.2))) :=
  ⟨(pe_lc hc hN hi.pi ok hg (fun s H C cl fp => (ht s H C cl fp).pt) (fun s H C cl fp => (he s H C cl fp).pe) hs).imp fun σ H Q q => comp_imp (X := X) (W := W) hi.g gt ge hown (fun _ _ _ _ z => z) (fun _ _ _ z => z) (fun _ _ _ z => z) q,
   grow_comp hi.g gt ge⟩
theorem rs_setComp (i : Nat) {y : PySem.Str} {py : Pos} {elt tg iter : Expr} {ifs : List Expr} {scope : Scope} {own : List (PySem.Str × Nat)} {pos spos : Pos} {it : PF.I} {g : Tg} {t : T} {d : PF.D} (hc : X.calm = true) (hN : X.N.Nodup) (hy : X.N[i]? = some y) (hyl : X.env.scope.names.lookup y = some .local)
    (hsw : swapsWith (.ListComp elt [⟨tg, iter, ifs, 0⟩] scope pos) (some (.Name y py)) spos.line X.env = pure true) (hi : RI X cls W tg iter it) (ok : BlkOk X.N X.env.scope scope own)
    (hg : ∀ (s : Shared) (H : Hp) (C : Addr) (cl : List (PySem.Str × Addr)) (fp : List Addr), PG (X.blk s H scope (compEnvC scope cl C X.env) fp) tg (tT X.K g))
    (ht : ∀ (s : Shared) (H : Hp) (C : Addr) (cl : List (PySem.Str × Addr)) (fp : List Addr), RTs (X.blk s H scope (compEnvC scope cl C X.env) fp) cls W0 ifs t)
    (he : ∀ (s : Shared) (H : Hp) (C : Addr) (cl : List (PySem.Str × Addr)) (fp : List Addr), RE (X.blk s H scope (compEnvC scope cl C X.env) fp) cls W0 elt d)
    (gt : Grow t) (ge : Grow d) (hown : ∀ j, j ∈ g.ids → j ∈ own.map (·.2)) (hs : ∀ x, foldedSetIterable iter X.env x = pure x := by intro _; rfl) :
    RS X cls W (.Assign [.Name y py] (.ListComp elt [⟨tg, iter, ifs, 0⟩] scope pos) spos) (sAsg (dComp it g t d (own.map (·.2))) (.n i)) :=
  ⟨(ps_setLc hc hN hy hyl hsw hi.pi ok hg (fun s H C cl fp => (ht s H C cl fp).pt) (fun s H C cl fp => (he s H C cl fp).pe) hs).imp fun D σ H q => by
    obtain ⟨φ, h, ρ, x, p⟩ := q
    -- the comprehension, then the name
    have gc := grow_comp (own := own.map (·.2)) hi.g gt ge (g := g)
    refine comp_imp (X := X) (W := W) hi.g gt ge hown (fun _ _ _ _ z => z) (fun _ _ _ z => z) (fun _ _ _ z => z) (x.firstS (R := rW X.K) (gc ρ h) p fun v H1 φ1 w1 h1 g1 x1 p1 => ?_)
    unfold onO at p1
    split at p1
    · rename_i ρ1 e
      exact gname_imp _ _ _ _ ⟨φ1, h1.length, w1, ρ, g1.r, x1.S, ρ1, e, fun σ1 s1 _ => p1 φ1 σ1 H1 (Ext.refl _ _) (Keep.refl _) ⟨g1.C, s1⟩⟩
    · exact p1.elim,
   grow_asg (grow_comp hi.g gt ge)⟩
end
/-! ### a def -/
def SpI (K : PySem.W.Frag) (cls : Cl) (f : Fn) : Sp := fun vs H Q E => ∃ φ h ws, Cells K cls φ h H ∧ VRs K φ h.length H ws vs ∧ Post K cls (rW K) φ h.length H E Q (f ws h)
theorem gc_grows {h : Hs} {r : Res PF.W} (g : grows h.length r) : grows h.length (gc h r) := by
  unfold gc
  have le : ∀ {h' : Hs}, h.length ≤ h'.length → h.length ≤ (h'.take h.length).length := fun {h'} l => by rw [List.length_take]; omega
  cases r with
  | ok w h' =>
    dsimp only
    split
    · split
      · exact le g
      · exact g
    · exact g
  | exc c p h' =>
    dsimp only
    split
    · exact le g
    · exact g
  | stuck => exact g
theorem gcL_grows {h : Hs} {r : Res PF.W} (g : grows h.length r) : grows h.length (gcL h r) := by
  unfold gcL
  split
  · split
    · split
      · split
        · unfold grows at g ⊢
          simp only [List.length_append, List.length_take]
          omega
        · exact g
      · exact g
    · exact g
  · exact gc_grows g
  · exact gc_grows g
  · exact g
/-! ### a list that nobody will change any more -/
inductive Lk (q : Hp → Prop) : Hp → Prop
  | done {H : Hp} : q H → Lk q H
  | lock {H : Hp} {d : Addr} {u : HO} : H d = some u → Mut (some u) → (∀ od, Lk q (upd H d (.frz od u))) → Lk q H
theorem Lk.bind {q : Hp → Prop} {H : Hp} (l : Lk (fun H => Lk q H) H) : Lk q H := by
  induction l with
  | done h => exact h
  | lock h mu _ ih => exact .lock h mu ih
theorem Lk.inv {X : Cx} {pins : List (Addr × Obj)} {σ : L2.St} {H : Hp} {s : Shared} {q : Hp → Prop} (I : Inv X pins σ H s) (l : Lk q H) : ∃ H', Inv X pins σ H' s ∧ q H' := by
  induction l with
  | done h => exact ⟨_, I, h⟩
  | lock h mu _ ih =>
    obtain ⟨od, I1⟩ := I.lock h mu
    exact ih od I1
theorem pe_lk {X : Cx} {e : Expr} {t : TE} (h : PE X e t) : PE X e (fun σ H Q => t σ H fun v H1 => Lk (Q v) H1) := by
  refine ⟨fun pins s σ H Q I hw => thn (h.run pins s σ H _ I hw) fun v s1 ⟨x, H1, I2, r, l⟩ => ?_⟩
  obtain ⟨H', I3, q⟩ := l.inv I2
  exact ⟨x, H', I3, r, q⟩
def lkD (D : Ends) : Ends := ⟨fun σ H => Lk (D.nx σ) H, fun v H => Lk (D.rt v) H, fun σ H => Lk (D.bk σ) H, fun σ H => Lk (D.ct σ) H⟩
theorem pss_lk {X : Cx} {b : List Stmt} {t : TS} (h : PSs X b t) : PSs X b (fun D σ H => t (lkD D) σ H) := by
  refine ⟨fun pins s σ H D I hw => thn (h.run pins s σ H _ I hw) fun f s1 q => ?_⟩
  cases f with
  | next => obtain ⟨σ', H', I2, q⟩ := q; obtain ⟨H2, I3, q⟩ := Lk.inv I2 q; exact ⟨σ', _, I3, q⟩
  | brk => obtain ⟨σ', H', I2, q⟩ := q; obtain ⟨H2, I3, q⟩ := Lk.inv I2 q; exact ⟨σ', _, I3, q⟩
  | cont => obtain ⟨σ', H', I2, q⟩ := q; obtain ⟨H2, I3, q⟩ := Lk.inv I2 q; exact ⟨σ', _, I3, q⟩
  | ret v => obtain ⟨x, σ', H', I2, r, q⟩ := q; obtain ⟨H2, I3, q⟩ := Lk.inv I2 q; exact ⟨x, σ', _, I3, r, q⟩
structure LkR (φ : Phi) (sk : Nat → Bool) (n m : Nat) (H H2 : Hp) : Prop where
  out : ∀ p, (∀ i, n ≤ i → i < m → sk i = false → φ i ≠ p) → H2 p = H p
  lst : ∀ i, n ≤ i → i < m → sk i = false → ∀ vs, H (φ i) = some (.lst vs) → ∃ od, H2 (φ i) = some (.frz od (.lst vs))
  oth : ∀ p, (∀ vs, H p ≠ some (.lst vs)) → H2 p = H p
section
variable {K : PySem.W.Frag} {cls : Cl} {φ : Phi} {h : Hs} {H H2 : Hp} {sk : Nat → Bool} {n m : Nat}
theorem lock_range (C : Cells K cls φ h H) (sk : Nat → Bool) (n : Nat) : ∀ (m : Nat) (q : Hp → Prop), m ≤ h.length → n ≤ m → (∀ H2, LkR φ sk n m H H2 → q H2) → Lk q H
  | 0, q, _, l, hq => .done (hq H ⟨fun _ _ => rfl, fun i a b => absurd b (by omega), fun _ _ => rfl⟩)
  | m + 1, q, hm, l, hq => by
    by_cases e : n = m + 1
    · exact .done (hq H ⟨fun _ _ => rfl, fun i a b => absurd b (by omega), fun _ _ => rfl⟩)
    refine Lk.bind (lock_range C sk n m _ (by omega) (by omega) fun H1 R => ?_)
    have same : H1 (φ m) = H (φ m) := R.out _ fun i a b _ z => by
      have := C.inj i m (by omega) (by omega) z
      omega
    have ne : ∀ i, i < m → φ i ≠ φ m := fun i a z => by
      have := C.inj i m (by omega) (by omega) z
      omega
    by_cases s : sk m = true
    · refine .done (hq H1 ⟨fun p hp => R.out p fun i a b => hp i a (by omega), fun i a b z vs hv => ?_, R.oth⟩)
      have : i ≠ m := fun y => by rw [y, s] at z; cases z
      exact R.lst i a (by omega) z vs hv
    · by_cases hl : ∃ vs, H (φ m) = some (.lst vs)
      · obtain ⟨vs, hv⟩ := hl
        refine .lock (same.trans hv) trivial fun od => .done (hq _ ⟨fun p hp => ?_, fun i a b z us hu => ?_, fun p hp => ?_⟩)
        · rw [upd_ne (hp m (by omega) (by omega) (by simpa using s)).symm]
          exact R.out p fun i a b => hp i a (by omega)
        · by_cases y : i = m
          · subst y
            rw [hv] at hu
            cases hu
            exact ⟨od, upd_same⟩
          · rw [upd_ne (ne i (by omega))]
            exact R.lst i a (by omega) z us hu
        · rw [upd_ne (fun z => hp vs (by rw [z]; exact hv))]
          exact R.oth p hp
      · refine .done (hq H1 ⟨fun p hp => R.out p fun i a b => hp i a (by omega), fun i a b z vs hv => ?_, R.oth⟩)
        by_cases y : i = m
        · subst y
          exact absurd ⟨vs, hv⟩ hl
        · exact R.lst i a (by omega) z vs hv
theorem LkR.keep (L : LkR φ sk n m H H2) : Keep H H2 := fun p o i hp => by
  rw [L.oth p fun vs z => by rw [hp] at z; cases z; exact i]
  exact hp
theorem mapO_vrs {f : PF.W → Option PF.W} {φ1 φ2 : Phi} {n1 n2 : Nat} {H1 H2 : Hp} (hf : ∀ w w' v, f w = some w' → VR K φ1 n1 H1 w v → VR K φ2 n2 H2 w' v) :
    ∀ {ws ws' : List PF.W} {vs : List V}, mapO f ws = some ws' → VRs K φ1 n1 H1 ws vs → VRs K φ2 n2 H2 ws' vs
  | [], _, _, e, .nil => by cases e; exact .nil
  | w :: ws, _, _, e, .cons r t => by
    rw [mapO] at e
    obtain ⟨b, e1, e⟩ := Option.bind_eq_some_iff.mp e
    obtain ⟨bs, e2, e⟩ := Option.bind_eq_some_iff.mp e
    cases e
    exact .cons (hf _ _ _ e1 r) (mapO_vrs hf e2 t)
theorem mapO_len {α β : Type} {f : α → Option β} : ∀ {ws : List α} {ws' : List β}, mapO f ws = some ws' → ws'.length = ws.length
  | [], _, e => by cases e; rfl
  | w :: ws, _, e => by
    rw [mapO] at e
    obtain ⟨b, e1, e⟩ := Option.bind_eq_some_iff.mp e
    obtain ⟨bs, e2, e⟩ := Option.bind_eq_some_iff.mp e
    cases e
    rw [List.length_cons, List.length_cons, mapO_len e2]
theorem fz_vr {hx : Hs} (C : Cells K cls φ h H) (L : LkR φ sk n h.length H H2) (hs : ∀ i ws, hx[i]? = some (.lst ws) → h[i]? = some (.lst ws) ∧ sk i = false) :
    ∀ (d : Nat) (w w' : PF.W) (v : V), fzW hx n d w = some w' → VR K φ h.length H w v → VR K φ n H2 w' v
  | 0, w, w', v, e, r => by
    unfold fzW at e
    split at e
    · rename_i hp
      cases e
      exact (r.mono (Ext.refl _ _) (Nat.le_refl _) L.keep).cut (fun _ _ => rfl) rfl (Bd.pure hp)
    · split at e
      · split at e
        · rename_i i hi
          cases e
          cases r
          exact .ref hi
        · cases e
      · cases e
  | d + 1, w, w', v, e, r => by
    unfold fzW at e
    split at e
    · rename_i hp
      cases e
      exact (r.mono (Ext.refl _ _) (Nat.le_refl _) L.keep).cut (fun _ _ => rfl) rfl (Bd.pure hp)
    · split at e
      · rename_i i _
        split at e
        · rename_i hi
          cases e
          cases r
          exact .ref hi
        · rename_i hi
          split at e
          · rename_i ws ei
            obtain ⟨ws', e1, e2⟩ := Option.map_eq_some_iff.mp e
            subst e2
            obtain ⟨e3, e4⟩ := hs i ws ei
            have hl : i < h.length := (List.getElem?_eq_some_iff.mp e3).1
            obtain ⟨vs, hv, rv⟩ := C.cell i _ e3
            obtain ⟨od, ho⟩ := L.lst i (by omega) hl e4 vs hv
            cases r
            exact .fl (.inl ⟨od, ho⟩) (mapO_vrs (fz_vr C L hs d) e1 rv)
          · cases e
      · obtain ⟨ws', e1, e2⟩ := Option.map_eq_some_iff.mp e
        subst e2
        cases r with
        | tup q t => exact .tup (L.keep.tup q) (mapO_vrs (fz_vr C L hs d) e1 t)
      · obtain ⟨ws', e1, e2⟩ := Option.map_eq_some_iff.mp e
        subst e2
        cases r with
        | fl q t => exact .fl (L.keep.fl q) (mapO_vrs (fz_vr C L hs d) e1 t)
      · obtain ⟨ws', e1, e2⟩ := Option.map_eq_some_iff.mp e
        subst e2
        cases r with
        | obj q a b t => exact .obj (L.keep _ _ b q) a b (mapO_vrs (fz_vr C L hs d) e1 t)
      · cases e
end
theorem pr_less {K : PySem.W.Frag} {φ φ' : Phi} {n n' : Nat} {H : Hp} {p : Pay} {d : Option Addr} (hf : ∀ i, i < n' → φ' i = φ i) (hc : φ'.c = φ.c) (r : PR K φ n H p d) (hp : p.pure = true) : PR K φ' n' H p d := by
  cases p with
  | none => exact r
  | some q =>
    obtain ⟨f, w⟩ := q
    obtain ⟨a, v, h1, h2, h3⟩ := r
    exact ⟨a, v, h1, h2, h3.cut hf hc (Bd.pure hp)⟩
theorem take_len {h h' : Hs} (t : tame h h' = true) : (h'.take h.length).length = h.length := by
  have := (tame_of t).1
  rw [List.length_take]
  omega
/-- the store ahead, when lists behind it have been locked -/
theorem less_lk {K : PySem.W.Frag} {cls : Cl} {φ φ' : Phi} {h h' : Hs} {H0 H H2 : Hp} {sk : Nat → Bool} (su : cls.su = none) (C0 : Cells K cls φ h H0) (C : Cells K cls φ' h' H) (t : tame h h' = true) (L : LkR φ' sk h.length h'.length H H2) : Cells K cls φ' (h'.take h.length) H2 := by
  have C1 := Cells.less C C0 (C0.noe.trans su) (cls' := cls) (φ'' := φ') rfl (fun _ _ => rfl) rfl C.noe t
  have len := take_len t
  have hl := (tame_of t).1
  refine ⟨C1.inj, C1.noe, C1.nof, fun i c hc => CR.heap L.keep ?_ (C1.cell i c hc)⟩
  have hi : i < h.length := by have := (List.getElem?_eq_some_iff.mp hc).1; omega
  exact L.out _ fun j a b _ z => by
    have := C.inj j i (by omega) (by omega) z
    omega
theorem gc_post {K : PySem.W.Frag} {cls : Cl} {φ : Phi} {h : Hs} {H : Hp} {E : XK} {Q : VK} {r : Res PF.W} (su : cls.su = none) (C : Cells K cls φ h H) (p : Post K cls (rW K) φ h.length H E Q (gc h r)) : Post K cls (rW K) φ h.length H E (fun v H' => Lk (Q v) H') r := by
  have dn : Post K cls (rW K) φ h.length H E Q r → Post K cls (rW K) φ h.length H E (fun v H' => Lk (Q v) H') r := fun p => p.mono fun v H' q => .done q
  cases r with
  | ok w h' =>
    unfold gc at p
    dsimp only at p
    split at p
    · rename_i t
      split at p
      · rename_i w' ew
        intro φ' v H' e k C' r
        refine lock_range C' (fun _ => false) h.length h'.length _ (Nat.le_refl _) (tame_of t).1 fun H2 L => ?_
        refine p φ' v H2 e (k.trans L.keep) (less_lk su C C' t L) ?_
        rw [take_len t]
        exact fz_vr C' L (fun i ws z => ⟨z, rfl⟩) 60 w w' v ew r
      · exact dn p
    · exact dn p
  | exc c y h' =>
    unfold gc at p
    dsimp only at p
    split at p
    · rename_i t
      intro φ' d H' e k C' r
      exact p φ' d H' e k (Cells.less C' C (C.noe.trans su) rfl (fun _ _ => rfl) rfl C'.noe t.1) (pr_less (fun _ _ => rfl) rfl r t.2)
    · exact p
  | stuck => exact p
theorem gcL_post {K : PySem.W.Frag} {cls : Cl} {φ : Phi} {h : Hs} {H : Hp} {E : XK} {Q : VK} {r : Res PF.W} (su : cls.su = none) (C : Cells K cls φ h H) (p : Post K cls (rW K) φ h.length H E Q (gcL h r)) : Post K cls (rW K) φ h.length H E (fun v H' => Lk (Q v) H') r := by
  have dn : ∀ r, Post K cls (rW K) φ h.length H E Q r → Post K cls (rW K) φ h.length H E (fun v H' => Lk (Q v) H') r := fun r p => p.mono fun v H' q => .done q
  unfold gcL at p
  split at p
  · rename_i i h'
    split at p
    · rename_i t
      obtain ⟨t, hi⟩ := t
      split at p
      · rename_i ws ei
        split at p
        · rename_i ws' em
          intro φ' v H' e k C' r
          have r' : VR K φ' h'.length H' (.ref i) v := r
          cases r' with
          | ref hi2 =>
            obtain ⟨vs, hv1, hv2⟩ := C'.cell i _ ei
            refine lock_range C' (fun j => decide (j = i)) h.length h'.length _ (Nat.le_refl _) (tame_of t).1 fun H2 L => ?_
            have C1 := less_lk su C C' t L
            have len := take_len t
            have hl := (tame_of t).1
            have q0 : VRs K φ' h.length H2 ws' vs := mapO_vrs (fz_vr C' L (fun j us z => by
              rw [List.getElem?_set] at z
              by_cases y : i = j
              · rw [if_pos y] at z
                split at z <;> cases z
              · rw [if_neg y] at z
                exact ⟨z, decide_eq_false fun x => y x.symm⟩) 60) em hv2
            have same : H2 (φ' i) = some (.lst vs) := by
              rw [L.out _ fun j a b c z => ?_]
              · exact hv1
              · have := C'.inj j i (by omega) (by omega) z
                rw [this] at c
                simp at c
            have e2 : Ext φ (PF.put φ' h.length (φ' i)) h.length := Ext.trans e (put_ext _ _ _) (Nat.le_refl _)
            have hlt : ∀ a, a < h.length → PF.put φ' h.length (φ' i) a = φ' a := fun a ha => (put_ext _ _ _).ix a ha
            have hne : ∀ a, a < h.length → φ' a ≠ φ' i := fun a ha z => by
              have := C'.inj a i (by omega) (by omega) z
              omega
            refine p (PF.put φ' h.length (φ' i)) _ H2 e2 (k.trans L.keep) ⟨fun a b ha hb ee => ?_, C'.noe, C'.nof, fun a c hc => ?_⟩ ?_
            · rw [List.length_append, len, List.length_singleton] at ha hb
              by_cases e1 : a = h.length
              · by_cases e2 : b = h.length
                · rw [e1, e2]
                · rw [e1, put_at, hlt b (by omega)] at ee
                  exact absurd ee.symm (hne b (by omega))
              · by_cases e2 : b = h.length
                · rw [e2, put_at, hlt a (by omega)] at ee
                  exact absurd ee (hne a (by omega))
                · rw [hlt a (by omega), hlt b (by omega)] at ee
                  exact C1.inj a b (by omega) (by omega) ee
            · rw [List.length_append, len, List.length_singleton]
              by_cases ha : a < h.length
              · rw [List.getElem?_append_left (by omega)] at hc
                have := C1.cell a c hc
                rw [len] at this
                exact this.mono (put_ext _ _ _) (Nat.le_succ _) (Keep.refl _) (hlt a ha) fun _ z => z
              · rw [List.getElem?_append_right (by omega), len] at hc
                have e1 : a - h.length = 0 := by
                  rcases Nat.eq_zero_or_pos (a - h.length) with z | z
                  · exact z
                  · rw [List.getElem?_eq_none (by rw [List.length_singleton]; omega)] at hc
                    cases hc
                rw [e1] at hc
                cases hc
                have e2 : a = h.length := by omega
                rw [e2, put_at]
                exact ⟨vs, same, VRs.mono (put_ext _ _ _) (Nat.le_succ _) (Keep.refl _) q0⟩
            · have ee : V.ref (φ' i) = .ref (PF.put φ' h.length (φ' i) h.length) := by rw [put_at]
              rw [ee]
              refine .ref ?_
              rw [List.length_append, len, List.length_singleton]
              exact Nat.lt_succ_self _
        · exact dn _ p
      · exact dn _ p
    · exact dn _ p
  · exact gc_post su C p
  · exact gc_post su C p
  · exact p
/-- an expression whose new lists become values -/
theorem re_gz {X : Cx} {cls : Cl} {W : WX} {e : Expr} {d : PF.D} (su : cls.su = none) (he : RE X cls W e d) : RE X cls W e (dGz d) :=
  ⟨(pe_lk he.pe).imp fun σ H Q t => t.ok fun φ h ρ x p => ⟨φ, h, ρ, x, gc_post su x.C p⟩, fun ρ h => gc_grows (he.g ρ h)⟩
theorem gr_gz {d : PF.D} (g : Grow d) : Grow (dGz d) := fun ρ h => gc_grows (g ρ h)
section
variable {P : Program} {w : World} {K : PySem.W.Frag} {mg : PySem.Str → Option Value} {base : Heap}
theorem grow_mk {ps n : Nat} {b : Sm} (gb : GrowS b) : GrC (mkF ps n b) := fun ws h => by
  unfold mkF
  split
  · have g := gb (ws.map some ++ List.replicate (n - ps) none) h
    revert g
    cases b (ws.map some ++ List.replicate (n - ps) none) h with
    | nx ρ h1 => exact fun g => g
    | ret w h1 => exact fun g => g
    | exc c p ρ h1 => exact fun g => g
    | _ => exact fun _ => trivial
  · trivial
theorem grow_def {ps n : Nat} {b : Sm} (gb : GrowS b) : GrC (defF ps n b) := fun ws h => gc_grows (grow_mk gb ws h)
theorem grow_defL {ps n : Nat} {b : Sm} (gb : GrowS b) : GrC (defL ps n b) := fun ws h => gcL_grows (grow_mk gb ws h)
/-- what is left of a def's answer -/
def EndOK (K : PySem.W.Frag) (cls : Cl) (en : Hs → Res PF.W → Res PF.W) : Prop := (∀ h, en h .stuck = .stuck) ∧ ∀ (φ : Phi) (h : Hs) (H : Hp) (E : XK) (Q : VK) (r : Res PF.W), Cells K cls φ h H → Post K cls (rW K) φ h.length H E Q (en h r) → Post K cls (rW K) φ h.length H E (fun v H' => Lk (Q v) H') r
theorem end_gc {K : PySem.W.Frag} {cls : Cl} (su : cls.su = none) : EndOK K cls gc := ⟨fun _ => rfl, fun _ _ _ _ _ _ C p => gc_post su C p⟩
theorem end_gcL {K : PySem.W.Frag} {cls : Cl} (su : cls.su = none) : EndOK K cls gcL := ⟨fun _ => rfl, fun _ _ _ _ _ _ C p => gcL_post su C p⟩
theorem end_id {K : PySem.W.Frag} {cls : Cl} : EndOK K cls (fun _ r => r) := ⟨fun _ => rfl, fun _ _ _ _ _ _ _ p => p.mono fun v H' q => .done q⟩
/-- a def keeps its reckoning -/
theorem fn_ok {x qual : PySem.Str} {st : Stmt} {f : Addr} {fd : FuncData} {N ps : List PySem.Str} {k : Nat} {cls : Cl} {b : Sm} {en : Hs → Res PF.W → Res PF.W} (F : Fun K x qual st f fd) (S : FnScope N ps (defScope st)) (ee : EndOK K cls en) (hle : ps.length ≤ N.length)
    (hbody : ∀ (cdv : Value) (A : Around) (outer : List PySem.Env) (s : Shared) (H : Hp) (E : XK), Room k (A.deeper (envOfC qual (defScope st) s.heap.objs.size f cdv)) →
      RSs (cxOf (L2.CX P w) P w K mg base N qual (defScope st) f cdv A outer s H E) cls (fun cls d _ H => E cls d H) (defBody st) b) : FnOk P w K mg base (L2.CX P w) (k + 1) f fd ps (SpI K cls fun ws h => en h (mkF ps.length N.length b ws h)) := by
  have len : ∀ vs H Q E, SpI K cls (fun ws h => en h (mkF ps.length N.length b ws h)) vs H Q E → vs.length = ps.length := fun vs H Q E ⟨φ, h, ws, C, r, p⟩ => by
    by_cases hl : ws.length = ps.length
    · rw [← r.length, hl]
    · unfold mkF at p
      dsimp only at p
      rw [if_neg hl, ee.1] at p
      exact p.elim
  refine F.okX S len fun cdv A outer s H vs Q E hr q => ?_
  have hl := len _ _ _ _ q
  obtain ⟨φ, h, ws, C, r, p⟩ := q
  refine ⟨_, pss_lk (hbody cdv A outer s H E hr).ps, ?_⟩
  have p' := ee.2 _ _ _ _ _ _ C p
  unfold mkF at p'
  rw [if_pos (by rw [r.length, hl])] at p'
  refine ⟨φ, h, ws.map some ++ List.replicate (N.length - ps.length) none, ⟨C, ?_⟩, ?_⟩
  · refine ⟨?_, fun i w hw => ?_⟩
    · unfold L2.start
      rw [List.length_append, List.length_append, List.length_map, List.length_map, List.length_replicate, List.length_replicate, r.length, hl]
    · unfold L2.start
      by_cases hi : i < ws.length
      · rw [List.getElem?_append_left (by rw [List.length_map]; exact hi), List.getElem?_map] at hw
        cases hw2 : ws[i]? with
        | none => rw [hw2] at hw; cases hw
        | some w' =>
          rw [hw2] at hw
          cases hw
          obtain ⟨v, hv, rv⟩ := r.get hw2
          refine ⟨v, ?_, rv⟩
          rw [List.getElem?_append_left (by rw [List.length_map, ← r.length]; exact hi), List.getElem?_map, hv]
          rfl
      · rw [List.getElem?_append_right (by rw [List.length_map]; omega), List.getElem?_replicate] at hw
        split at hw <;> cases hw
  · revert p'
    cases b (ws.map some ++ List.replicate (N.length - ps.length) none) h with
    | nx ρ1 h1 => exact fun p φ' σ' H' e k x => p φ' .non H' e k x.C .non
    | ret w1 h1 => exact fun p φ' v H' e k C r => p φ' v H' e k C r
    | exc c y ρ1 h1 => exact fun p φ' d σ' H' e k x r => p φ' d H' e k x.C r
    | _ => exact fun p => p.elim
end
section
variable {X : Cx} {cls : Cl} {W : WX}
theorem re_call {k : Nat} {f : Addr} {fd : FuncData} {ps : List PySem.Str} {fn : Fn} {x : PySem.Str} {p pos : Pos} {e : Expr} {es : List Expr} {as : As} (F : FnOk X.prog X.w X.K X.mg X.base (L2.CX X.prog X.w) k f fd ps (SpI X.K cls fn)) (gf : GrC fn) (tk : Takes X W) (hr : Room k X.A)
    (hg : Gl X x) (hm : X.mg x = some (.ref f)) (hk : PySem.W.keepIn X.K (.ref f) = true) (hb : Binds X.K fd ps []) (ha : RA X cls W (e :: es) as) (hdb : (x == ("__debug__" : PySem.Str)) = false := by decide)
    (he : starEach (e :: es) X.env = (false, eval e X.env) :: starEach es X.env := by rfl) (hpl : (backTo pos (starEach es X.env)).any (·.1) = false := by rfl) : RE X cls W (.Call (.Name x p) (e :: es) [] pos) (dCall fn as) := by
  refine ⟨(pe_callS F hr hg hm hk hb (fun σ => passAt tk σ) ha.pa hdb he hpl).imp fun σ H Q t => t.ok fun φ h ρ x p => ?_, grow_call gf ha.g⟩
  exact x.first (ha.g ρ h) p fun vs H1 φ1 ws h1 g1 x1 p1 => ⟨φ1, h1, ws, g1.C, g1.r, p1⟩
end
section
variable {X : Cx} {cls : Cl} {W : WX}
theorem ps_lk {X : Cx} {b : Stmt} {t : TS} (h : PS X b t) : PS X b (fun D σ H => t (lkD D) σ H) := by
  refine ⟨fun pins s σ H D I hw => thn (h.run pins s σ H _ I hw) fun f s1 q => ?_⟩
  cases f with
  | next => obtain ⟨σ', H', I2, q⟩ := q; obtain ⟨H2, I3, q⟩ := Lk.inv I2 q; exact ⟨σ', _, I3, q⟩
  | brk => obtain ⟨σ', H', I2, q⟩ := q; obtain ⟨H2, I3, q⟩ := Lk.inv I2 q; exact ⟨σ', _, I3, q⟩
  | cont => obtain ⟨σ', H', I2, q⟩ := q; obtain ⟨H2, I3, q⟩ := Lk.inv I2 q; exact ⟨σ', _, I3, q⟩
  | ret v => obtain ⟨x, σ', H', I2, r, q⟩ := q; obtain ⟨H2, I3, q⟩ := Lk.inv I2 q; exact ⟨x, σ', _, I3, r, q⟩
/-- x = e, the list made becomes a value -/
theorem rs_gzN {st : Stmt} {d : PF.D} {i : Nat} (su : cls.su = none) (hs : RS X cls W st (sAsg d (.n i))) (gd : Grow d) : RS X cls W st (sAsg (dGz d) (.n i)) := by
  refine ⟨(ps_lk hs.ps).imp fun D σ H t => t.ok fun φ h ρ x p => ⟨φ, h, ρ, x, ?_⟩, grow_asg (gr_gz gd)⟩
  have he : φ.e = none := x.C.noe.trans su
  have bd : ∀ (j : Nat) (u : PF.W), ρ[j]? = some (some u) → Bd h.length u := fun j u hu => by
    obtain ⟨v, _, r⟩ := x.S.2 j u hu
    exact r.bd he
  unfold sAsg dGz at p
  unfold sAsg
  cases hd : d ρ h with
  | stuck => rw [hd] at p; exact p.elim
  | exc c y h' =>
    rw [hd] at p
    intro φ' dd σ' H' e k x' r
    unfold gc at p
    dsimp only at p
    split at p
    · rename_i t
      refine p φ' dd σ' H' e k ⟨Cells.less x'.C x.C he rfl (fun _ _ => rfl) rfl x'.C.noe t.1, ?_⟩ (pr_less (fun _ _ => rfl) rfl r t.2)
      rw [take_len t.1]
      refine ⟨x'.S.1, fun j u hu => ?_⟩
      obtain ⟨v, hv, rv⟩ := x'.S.2 j u hu
      exact ⟨v, hv, rv.cut (fun _ _ => rfl) rfl (bd j u hu)⟩
    · exact p φ' dd σ' H' e k x' r
  | ok w h1 =>
    rw [hd] at p
    rw [onR_ok, Tg.run]
    by_cases hi : i < ρ.length
    · rw [if_pos hi, onO_some]
      intro φ' σ' H' e k x'
      unfold gc at p
      dsimp only at p
      split at p
      · rename_i t
        split at p
        · rename_i w' ew
          rw [onR_ok, Tg.run, if_pos hi, onO_some] at p
          refine lock_range x'.C (fun _ => false) h.length h1.length _ (Nat.le_refl _) (tame_of t).1 fun H2 L => ?_
          refine p φ' σ' H2 e (k.trans L.keep) ⟨less_lk su x.C x'.C t L, ?_⟩
          rw [take_len t]
          refine ⟨by have := x'.S.1; rwa [List.length_set] at this ⊢, fun j u hu => ?_⟩
          rw [List.getElem?_set] at hu
          by_cases ij : i = j
          · rw [if_pos ij] at hu
            split at hu
            · cases hu
              obtain ⟨v, hv, rv⟩ := x'.S.2 j w (by rw [List.getElem?_set, if_pos ij, if_pos (by omega)])
              exact ⟨v, hv, fz_vr x'.C L (fun i ws z => ⟨z, rfl⟩) 60 w _ v ew rv⟩
            · rename_i z; exact absurd hi z
          · rw [if_neg ij] at hu
            obtain ⟨v, hv, rv⟩ := x'.S.2 j u (by rw [List.getElem?_set, if_neg ij]; exact hu)
            exact ⟨v, hv, (rv.cut (fun _ _ => rfl) rfl (bd j u hu)).mono (Ext.refl _ _) (Nat.le_refl _) L.keep⟩
        · rw [onR_ok, Tg.run, if_pos hi, onO_some] at p
          exact .done (p φ' σ' H' e k x')
      · rw [onR_ok, Tg.run, if_pos hi, onO_some] at p
        exact .done (p φ' σ' H' e k x')
    · have : (fun (w : PF.W) (h1 : Hs) => onO ((Tg.n i).run w ρ) fun ρ1 => Out.nx ρ1 h1) = fun _ _ => Out.stuck := by
        funext w h1
        rw [Tg.run, if_neg hi]
        rfl
      rw [this] at p
      unfold gc at p
      dsimp only at p
      split at p
      · split at p <;> exact p.elim
      · exact p.elim
end
end PF
namespace PF
open PySem PySem.Spec PyProof.Rows L2
section
variable {X : Cx} {cls : Cl}
theorem sS_app (a b : List Nat) : sS a ++ sS b = sS (a ++ b) := by
  show PySem.Str.append (sS a) (sS b) = sS (a ++ b)
  unfold PySem.Str.append sS
  simp
theorem sS_len (a : List Nat) : (sS a).length = a.length := by
  unfold PySem.Str.length sS
  simp
theorem sS_inj {a b : List Nat} (h : sS a = sS b) : a = b := by
  unfold sS at h
  simpa using h
theorem okS_app {a b : List Nat} (ha : okS a) (hb : okS b) : okS (a ++ b) := fun c hc => (List.mem_append.mp hc).elim (ha c) (hb c)
theorem rO_ok {K : PySem.W.Frag} {φ : Phi} {h : Hs} {H : Hp} {E : XK} {Q : VK} {w : PF.W} {v : V} (C : Cells K cls φ h H) (p : Post K cls (rW K) φ h.length H E Q (.ok w h)) (r : VR K φ h.length H w v) : Q v H := p φ v H (Ext.refl _ _) (Keep.refl _) C r
/-! ### lists put together, locked ones too -/
theorem meets_catW (l b : Addr) (xs ys : Array Value) (n m : Nat) (sl tl : Array (Option Value)) (hz : xs.size + ys.size ≤ sizeLine) :
    Meets (Builtin.«list.__add__» ⟨[.ref l, .ref b], []⟩) (fun _ R s => s.heap.get? l = some ⟨.type "list", none, .seq xs n, sl⟩ ∧ s.heap.get? b = some ⟨.type "list", none, .seq ys m, tl⟩ ∧ R (.ok (.ret (.ref s.heap.objs.size))) { s with heap := s.heap.push { cls := .type "list", data := .seq (xs ++ ys) } }) := by
  refine .of_wp fun prog w A R s q => ?_
  obtain ⟨hp, gg, dr, tk, os⟩ := s
  obtain ⟨e1, e2, q⟩ := q
  have f3 := AutoSeq1.sub_list_list
  wp_walk using AutoSeq1.wpAny_loadPart' e1, AutoSeq1.wpAny_loadPart' e2
  exact ⟨_, rfl, q⟩
theorem meets_extW (l b : Addr) (xs ys : Array Value) (n m : Nat) (tl : Array (Option Value)) (hz : xs.size + ys.size ≤ sizeLine) (h0 : ¬ (!xs.isEmpty && Builtin.List.listTooLong (xs.size + ys.size)) = true) (h1 : xs.size ≤ sizeLine) :
    Meets (Builtin.«list.extend» ⟨[.ref l, .ref b], []⟩) (fun _ R s => s.heap.get? l = some ⟨.type "list", none, .seq xs n, #[]⟩ ∧ s.heap.get? b = some ⟨.type "list", none, .seq ys m, tl⟩ ∧ R (.ok (.ret .none)) { s with heap := s.heap.update l (Obj.mapSeq fun x => x ++ ys) }) := by
  refine .of_wp fun prog w A R s q => ?_
  obtain ⟨hp, gg, dr, tk, os⟩ := s
  obtain ⟨e1, e2, q⟩ := q
  have f3 := AutoSeq1.sub_list_list
  have f4 := AutoSeq1.sub_list_tuple
  have hz2 : (xs ++ ys).size ≤ sizeLine + 1 := by rw [Array.size_append]; omega
  wp_walk using (wpAny_updateSeq e1 rfl (hz := h1) (_hz' := hz2)), AutoSeq1.wpAny_loadPart' e1, AutoSeq1.wpAny_loadPart' e2
  exact ⟨_, rfl, q⟩
theorem plain_obj {hp : Heap} {a : Addr} {its : Array Value} (p : PlainL hp a its) : ∃ n sl, hp.get? a = some ⟨.type "list", none, .seq its n, sl⟩ := by
  obtain ⟨o, n, e, h1, h2, h3⟩ := p
  obtain ⟨c, d, t, sl⟩ := o
  cases h1
  cases h2
  cases h3
  exact ⟨n, sl, e⟩
def rCatW (K : PySem.W.Frag) : R2 := fun x y H Q => ∃ l b xs zs, x = .ref l ∧ y = .ref b ∧ SqL K H l xs ∧ SqL K H b zs ∧ xs.length + zs.length ≤ sizeLine ∧ ∀ p, H p = none → Q (.ref p) (upd H p (.lst (xs ++ zs)))
theorem op_catW : OpR X (binaryOp .Add) (rCatW X.K) := by
  intro pins s σ H x y v u Q I rx ry h
  obtain ⟨l, b, xs, zs, rfl, rfl, hH, hB, hz, q⟩ := h
  cases rx
  cases ry
  obtain ⟨its, r, e, _⟩ := I.list hH
  obtain ⟨its2, r2, e2, _⟩ := I.list hB
  obtain ⟨n, sl, e⟩ := plain_obj e
  obtain ⟨n2, sl2, e2⟩ := plain_obj e2
  have hl := r.length
  have hl2 := r2.length
  refine concat_meets ⟨_, e, rfl⟩ ⟨_, e2, rfl⟩ noFill_list_add seq_list_add F.slot_list_add F.entry_list_add (F.args_list_add_2 _ _) (meets_catW l b its.toArray its2.toArray n n2 sl sl2 (by rw [List.size_toArray, List.size_toArray]; omega)) ⟨e, e2, ?_⟩
  have ea : its.toArray ++ its2.toArray = (its ++ its2).toArray := by simp
  rw [ea]
  exact ⟨.ref _, _, I.lnew (t' := s.toks) (r.append r2) (by rw [List.length_append]; omega), rfl, q _ I.fresh⟩
theorem o_add : OpR X (binaryOp .Add) (rO X.K cls oAdd) := by
  rintro pins s σ H x y v u Q I rx ry ⟨φ, h, w1, w2, E, C, r1, r2, p⟩
  unfold oAdd at p
  split at p
  · cases r1; cases r2
    exact op_add pins s σ H _ _ v u Q I rx ry ⟨_, _, rfl, rfl, rO_ok C p (.int _)⟩
  · split at p
    · rename_i hl
      cases r1 with
      | str a ha =>
        cases r2 with
        | str b hb =>
          refine op_add_str pins s σ H _ _ v u Q I rx ry ⟨_, _, rfl, rfl, ?_, ?_⟩
          · rw [sS_len, sS_len, ← bigL_eq]; exact hl
          · rw [sS_app]; exact rO_ok C p (.str _ (okS_app ha hb))
    · exact p.elim
  · split at p
    · rename_i a b e1 e2
      split at p
      · rename_i hl
        cases r1; cases r2
        obtain ⟨vs, h1, h2⟩ := C.cell _ _ e1
        obtain ⟨us, h3, h4⟩ := C.cell _ _ e2
        refine op_cat pins s σ H _ _ v u Q I rx ry ⟨_, _, vs, us, rfl, rfl, h1, h3, ?_, post_lst C (h2.append h4) p⟩
        rw [← h2.length, ← h4.length, ← bigL_eq]; exact hl
      · exact p.elim
    · exact p.elim
  · split at p
    · rename_i hl
      cases r1 with
      | fl q1 t1 =>
        cases r2 with
        | fl q2 t2 =>
          refine op_catW pins s σ H _ _ v u Q I rx ry ⟨_, _, _, _, rfl, rfl, q1.l, q2.l, ?_, post_lst C (t1.append t2) p⟩
          rw [← t1.length, ← t2.length, ← bigL_eq]; exact hl
    · exact p.elim
  · split at p
    · rename_i b e2
      split at p
      · rename_i hl
        cases r2
        obtain ⟨us, h3, h4⟩ := C.cell _ _ e2
        cases r1 with
        | fl q1 t1 =>
          refine op_catW pins s σ H _ _ v u Q I rx ry ⟨_, _, _, _, rfl, rfl, q1.l, .of h3, ?_, post_lst C (t1.append h4) p⟩
          rw [← t1.length, ← h4.length, ← bigL_eq]; exact hl
      · exact p.elim
    · exact p.elim
  · split at p
    · rename_i b e2
      split at p
      · rename_i hl
        cases r1
        obtain ⟨us, h3, h4⟩ := C.cell _ _ e2
        cases r2 with
        | fl q1 t1 =>
          refine op_catW pins s σ H _ _ v u Q I rx ry ⟨_, _, _, _, rfl, rfl, .of h3, q1.l, ?_, post_lst C (h4.append t1) p⟩
          rw [← t1.length, ← h4.length, ← bigL_eq]; exact hl
      · exact p.elim
    · exact p.elim
  · split at p
    · rename_i hl
      cases r1 with
      | tup q1 t1 =>
        cases r2 with
        | tup q2 t2 =>
          refine op_catT pins s σ H _ _ v u Q I rx ry ⟨_, _, _, _, rfl, rfl, q1, q2, ?_, ?_, ?_, ?_⟩
          · intro z; subst z; cases t1; exact hl.1 rfl
          · rw [← t1.length, ← t2.length, ← bigL_eq]; exact hl.2.2
          · intro z; subst z; cases t2; exact absurd rfl hl.2.1
          · exact fun _ => post_tup C (t1.append t2) p
    · exact p.elim
  · exact p.elim
theorem g_add : GrO oAdd := fun w u h => by
  have nl : ∀ ws : List PF.W, grows h.length (newL ws h) := fun ws => newL_grows ws h
  unfold oAdd
  split
  · exact Nat.le_refl _
  · split
    · exact Nat.le_refl _
    · trivial
  · split
    · split
      · exact nl _
      · trivial
    · trivial
  · split
    · exact nl _
    · trivial
  · split
    · split
      · exact nl _
      · trivial
    · trivial
  · split
    · split
      · exact nl _
      · trivial
    · trivial
  · split
    · exact Nat.le_refl _
    · trivial
  · trivial
theorem o_ints {f : Value → Value → Sem Value} {C0 : Int → Int → Prop} {g : Int → Int → V} {o : PF.W → PF.W → Hs → Res PF.W} (R : OpR X f (rI C0 g))
    (ho : ∀ (φ : Phi) (h : Hs) (H : Hp) (w u : PF.W) (E : XK) (Q : VK), Cells X.K cls φ h H → Post X.K cls (rW X.K) φ h.length H E Q (o w u h) → ∃ i j, w = .int i ∧ u = .int j ∧ C0 i j ∧ Q (g i j) H) : OpR X f (rO X.K cls o) := by
  rintro pins s σ H x y v u Q I rx ry ⟨φ, h, w1, w2, E, C, r1, r2, p⟩
  obtain ⟨i, j, rfl, rfl, hc, q⟩ := ho φ h H w1 w2 E Q C p
  cases r1; cases r2
  exact R pins s σ H _ _ v u Q I rx ry ⟨i, j, rfl, rfl, hc, q⟩
theorem o_ints0 {f : Value → Value → Sem Value} {g : Int → Int → V} {o : PF.W → PF.W → Hs → Res PF.W} (R : OpR X f (rI0 g))
    (ho : ∀ (φ : Phi) (h : Hs) (H : Hp) (w u : PF.W) (E : XK) (Q : VK), Cells X.K cls φ h H → Post X.K cls (rW X.K) φ h.length H E Q (o w u h) → ∃ i j, w = .int i ∧ u = .int j ∧ Q (g i j) H) : OpR X f (rO X.K cls o) := by
  rintro pins s σ H x y v u Q I rx ry ⟨φ, h, w1, w2, E, C, r1, r2, p⟩
  obtain ⟨i, j, rfl, rfl, q⟩ := ho φ h H w1 w2 E Q C p
  cases r1; cases r2
  exact R pins s σ H _ _ v u Q I rx ry ⟨i, j, rfl, rfl, q⟩
theorem o_sub : OpR X (binaryOp .Sub) (rO X.K cls oSub) := o_ints0 op_sub fun φ h H w u E Q C p => by
  unfold oSub at p
  split at p
  · exact ⟨_, _, rfl, rfl, rO_ok C p (.int _)⟩
  · exact p.elim
theorem g_sub : GrO oSub := fun w u h => by
  unfold oSub
  split <;> first | exact Nat.le_refl _ | trivial
theorem mulOK_int {i j : Int} (h : mulOK i j) : IntMulOk i j := by
  rcases h with h | h | h
  · exact CMulW.ok h
  · exact CMul.ok (.inl (by omega))
  · exact CMul.ok (.inr (by omega))
theorem rep_cps : ∀ (n : Nat) (s acc : List Nat), (List.replicate n s.toArray).foldl (· ++ ·) acc.toArray = (acc ++ (List.replicate n s).flatten).toArray
  | 0, s, acc => by simp
  | n + 1, s, acc => by
    rw [List.replicate_succ, List.replicate_succ, List.foldl_cons, List.flatten_cons, ← List.append_assoc, ← rep_cps n s (acc ++ s)]
    simp
theorem okS_rep (n : Nat) {s : List Nat} (o : okS s) : okS (List.replicate n s).flatten := fun c hc => by
  obtain ⟨l, hl, hc⟩ := List.mem_flatten.mp hc
  rw [(List.mem_replicate.mp hl).2] at hc
  exact o c hc
theorem o_mul : OpR X (binaryOp .Mult) (rO X.K cls oMul) := by
  rintro pins s σ H x y v u Q I rx ry ⟨φ, h, w1, w2, E, C, r1, r2, p⟩
  unfold oMul at p
  split at p
  · split at p
    · rename_i hc
      cases r1; cases r2
      have oi : OpR X (binaryOp .Mult) (rI mulOK fun i j => .int (i * j)) := opI fun _ _ _ _ _ _ _ hc q => mul_int q (mulOK_int hc)
      exact oi pins s σ H _ _ v u Q I rx ry ⟨_, _, rfl, rfl, hc, rO_ok C p (.int _)⟩
    · exact p.elim
  · rename_i z i
    split at p
    · rename_i hc
      cases r2
      cases r1 with
      | str _ ok =>
        obtain ⟨t, rfl⟩ := rx
        obtain ⟨t2, rfl⟩ := ry
        have q := rO_ok C p (.str _ (okS_rep i.toNat ok))
        have zl : (sS z).length = z.length := by simp [sS, PySem.Str.length]
        have mk : (⟨(List.replicate i.toNat (sS z).cps).foldl (· ++ ·) #[]⟩ : PySem.Str) = sS (List.replicate i.toNat z).flatten := by
          have := rep_cps i.toNat z []
          rw [List.nil_append] at this
          show (⟨(List.replicate i.toNat z.toArray).foldl (· ++ ·) #[]⟩ : PySem.Str) = _
          rw [this]; rfl
        have hb : (sS z).length * i.toNat ≤ 1000000 := by
          rw [zl]
          exact Nat.mul_le_mul (show z.length ≤ 1000 from hc.2.2) (show i.toNat ≤ 1000 by omega)
        refine PySem.P.mul_str (by rw [decide_eq_false (by omega), decide_eq_false (by omega)]; rfl) (fun _ _ => ?_) (fun _ _ => PyProof.Rows.short24 (by omega)) ?_
        · have h1 : (2 : Int) ^ 53 ≤ (2 ^ 63 - 1) / i := (Int.le_ediv_iff_mul_le (by omega)).mpr (by omega)
          have h2 : (((sS z).length : Nat) : Int) ≤ 1000 := by rw [zl]; omega
          omega
        · rw [if_neg (by omega)]
          split
          · rename_i e
            have e2 : (List.replicate i.toNat z).flatten = z := by
              rcases Bool.or_eq_true _ _ |>.mp e with e | e
              · have : i = 1 := by simpa using e
                rw [this]
                simp
              · have e3 : z.length = 0 := by rw [← zl]; simpa using e
                rw [List.length_eq_zero_iff.mp e3]
                simp
            rw [e2] at q
            exact ⟨.str (sS z), H, I, ⟨_, rfl⟩, q⟩
          · rw [mk]
            have hn : (sS (List.replicate i.toNat z).flatten).length ≤ sizeLine := by
              have : (sS (List.replicate i.toNat z).flatten).length = i.toNat * z.length := by simp [sS, PySem.Str.length]
              rw [this, Nat.mul_comm, ← zl, sizeLine_eq]
              omega
            exact ⟨hn, .str (sS (List.replicate i.toNat z).flatten), H, I.tok _, ⟨_, rfl⟩, q⟩
    · exact p.elim
  · exact p.elim
theorem g_mul : GrO oMul := fun w u h => by
  unfold oMul
  split
  · split <;> first | exact Nat.le_refl _ | trivial
  · split <;> first | exact Nat.le_refl _ | trivial
  · trivial
theorem o_div : OpR X (binaryOp .FloorDiv) (rO X.K cls oDiv) := o_ints (C0 := divOK) (g := fun i j => .int (i.fdiv j)) (opI fun _ _ _ _ _ _ _ hc q => floordiv_int hc.1 q (.inl hc.2)) fun φ h H w u E Q C p => by
  unfold oDiv at p
  split at p
  · split at p
    · rename_i hc
      exact ⟨_, _, rfl, rfl, hc, rO_ok C p (.int _)⟩
    · exact p.elim
  · exact p.elim
theorem g_div : GrO oDiv := fun w u h => by
  unfold oDiv
  split
  · split <;> first | exact Nat.le_refl _ | trivial
  · trivial
theorem o_mod : OpR X (binaryOp .Mod) (rO X.K cls oMod) := o_ints op_modN fun φ h H w u E Q C p => by
  unfold oMod at p
  split at p
  · split at p
    · rename_i hc
      exact ⟨_, _, rfl, rfl, hc, rO_ok C p (.int _)⟩
    · exact p.elim
  · exact p.elim
theorem g_mod : GrO oMod := fun w u h => by
  unfold oMod
  split
  · split <;> first | exact Nat.le_refl _ | trivial
  · trivial
theorem o_pow : OpR X (binaryOp .Pow) (rO X.K cls oPow) := o_ints op_pow fun φ h H w u E Q C p => by
  unfold oPow at p
  split at p
  · split at p
    · rename_i hc
      exact ⟨_, _, rfl, rfl, hc, rO_ok C p (.int _)⟩
    · exact p.elim
  · exact p.elim
theorem g_pow : GrO oPow := fun w u h => by
  unfold oPow
  split
  · split <;> first | exact Nat.le_refl _ | trivial
  · trivial
theorem o_lt : OpR X (compareOp .Lt) (rO X.K cls oLt) := by
  rintro pins s σ H x y v u Q I rx ry ⟨φ, h, w1, w2, E, C, r1, r2, p⟩
  unfold oLt at p
  split at p
  · cases r1; cases r2
    exact op_lt pins s σ H _ _ v u Q I rx ry ⟨_, _, rfl, rfl, rO_ok C p (.bl _)⟩
  · rename_i a b
    cases r1; cases r2
    refine op_lt_str pins s σ H _ _ v u Q I rx ry ⟨_, _, rfl, rfl, ?_⟩
    have q := rO_ok C p (.bl _)
    refine Eq.mp (congrArg (fun b => Q (V.bl b) H) ?_) q
    exact decide_eq_decide.mpr Iff.rfl
  · exact p.elim
theorem g_lt : GrO oLt := fun w u h => by
  unfold oLt
  split <;> first | exact Nat.le_refl _ | trivial
theorem o_le : OpR X (compareOp .LtE) (rO X.K cls oLe) := o_ints0 op_le fun φ h H w u E Q C p => by
  unfold oLe at p
  split at p
  · exact ⟨_, _, rfl, rfl, rO_ok C p (.bl _)⟩
  · exact p.elim
theorem g_le : GrO oLe := fun w u h => by
  unfold oLe
  split <;> first | exact Nat.le_refl _ | trivial
theorem o_gt : OpR X (compareOp .Gt) (rO X.K cls oGt) := by
  rintro pins s σ H x y v u Q I rx ry ⟨φ, h, w1, w2, E, C, r1, r2, p⟩
  unfold oGt at p
  split at p
  · cases r1; cases r2
    exact op_gt pins s σ H _ _ v u Q I rx ry ⟨_, _, rfl, rfl, rO_ok C p (.bl _)⟩
  · rename_i a b
    cases r1; cases r2
    refine op_gt_str pins s σ H _ _ v u Q I rx ry ⟨_, _, rfl, rfl, ?_⟩
    have q := rO_ok C p (.bl _)
    refine Eq.mp (congrArg (fun b => Q (V.bl b) H) ?_) q
    first
      | exact decide_eq_decide.mpr Iff.rfl
      | exact congrArg Bool.not (decide_eq_decide.mpr Iff.rfl)
  · exact p.elim
theorem g_gt : GrO oGt := fun w u h => by
  unfold oGt
  split <;> first | exact Nat.le_refl _ | trivial
theorem o_ge : OpR X (compareOp .GtE) (rO X.K cls oGe) := by
  rintro pins s σ H x y v u Q I rx ry ⟨φ, h, w1, w2, E, C, r1, r2, p⟩
  unfold oGe at p
  split at p
  · cases r1; cases r2
    exact op_ge pins s σ H _ _ v u Q I rx ry ⟨_, _, rfl, rfl, rO_ok C p (.bl _)⟩
  · rename_i a b
    cases r1; cases r2
    refine op_ge_str pins s σ H _ _ v u Q I rx ry ⟨_, _, rfl, rfl, ?_⟩
    have q := rO_ok C p (.bl _)
    refine Eq.mp (congrArg (fun b => Q (V.bl b) H) ?_) q
    first
      | exact decide_eq_decide.mpr Iff.rfl
      | exact congrArg Bool.not (decide_eq_decide.mpr Iff.rfl)
  · exact p.elim
theorem g_ge : GrO oGe := fun w u h => by
  unfold oGe
  split <;> first | exact Nat.le_refl _ | trivial
theorem o_neg : UnR X (unaryOp .USub) (rU1 X.K cls oNeg) := by
  rintro pins s σ H x v Q I rx ⟨φ, h, w, E, C, r, p⟩
  unfold oNeg at p
  split at p
  · cases r
    exact un_neg pins s σ H _ v Q I rx ⟨_, rfl, rO_ok C p (.int _)⟩
  · exact p.elim
theorem g_neg : GrU oNeg := fun w h => by
  unfold oNeg
  split <;> first | exact Nat.le_refl _ | trivial

/-! ### equality -/
mutual
def Da.py : Da → PyData
  | .non => .none
  | .bl b => .bool b
  | .int i => .int i
  | .str s => .str (sS s)
  | .lst ds => .list (Da.pys ds)
  | .tup ds => .tuple (Da.pys ds)
def Da.pys : List Da → List PyData
  | [] => []
  | d :: ds => d.py :: Da.pys ds
end
theorem sS_beq (a b : List Nat) : (sS a == sS b) = (a == b) := by
  by_cases e : a = b
  · subst e; simp
  · have : ¬ sS a = sS b := fun z => e (sS_inj z)
    rw [beq_eq_false_iff_ne.mpr e, beq_eq_false_iff_ne.mpr this]
mutual
theorem Da.eqv_py : ∀ d e : Da, PyData.eqv d.py e.py = Da.eqB d e
  | .non, e => by cases e <;> simp [Da.py, Da.eqB, PyData.eqv]
  | .bl a, e => by cases e <;> simp [Da.py, Da.eqB, PyData.eqv]
  | .int a, e => by cases e <;> simp [Da.py, Da.eqB, PyData.eqv]
  | .str a, e => by cases e <;> simp [Da.py, Da.eqB, PyData.eqv, sS_beq]
  | .lst a, e => by cases e <;> simp [Da.py, Da.eqB, PyData.eqv, Da.eqv_pys a]
  | .tup a, e => by cases e <;> simp [Da.py, Da.eqB, PyData.eqv, Da.eqv_pys a]
theorem Da.eqv_pys : ∀ ds es : List Da, PyData.eqvAll (Da.pys ds) (Da.pys es) = Da.eqL ds es
  | [], es => by cases es <;> simp [Da.pys, Da.eqL, PyData.eqvAll]
  | d :: ds, es => by cases es <;> simp [Da.pys, Da.eqL, PyData.eqvAll, Da.eqv_py d, Da.eqv_pys ds]
end
section
variable {K : PySem.W.Frag} {φ : Phi} {h : Hs} {H : Hp}
theorem Dp_of (C : Cells K cls φ h H) : ∀ (n : Nat) (w : PF.W) (v : V) (d : Da), VR K φ h.length H w v → daOf h n w = some d → Dp K H v d.py ∧ d.py.canLay0 = true ∧ d.py.depth ≤ n := by
  have all : ∀ (n : Nat), (∀ (w : PF.W) (v : V) (d : Da), VR K φ h.length H w v → daOf h n w = some d → Dp K H v d.py ∧ d.py.canLay0 = true ∧ d.py.depth ≤ n) →
      ∀ (ws : List PF.W) (vs : List V) (ds : List Da), VRs K φ h.length H ws vs → mapO (daOf h n) ws = some ds → DpAll K H vs (Da.pys ds) ∧ PyData.canLayAll0 (Da.pys ds) = true ∧ PyData.depthAll (Da.pys ds) ≤ n := by
    intro n ih ws
    induction ws with
    | nil =>
      intro vs ds r e
      cases r
      cases e
      exact ⟨.nil, rfl, Nat.zero_le _⟩
    | cons w ws ihw =>
      intro vs ds r e
      cases r with
      | cons r0 rr =>
        rw [mapO] at e
        cases e1 : daOf h n w with
        | none => rw [e1] at e; cases e
        | some d =>
          rw [e1] at e
          cases e2 : mapO (daOf h n) ws with
          | none =>
            have e : (mapO (daOf h n) ws).bind _ = some ds := e
            rw [e2] at e; cases e
          | some ds' =>
            have e : (mapO (daOf h n) ws).bind _ = some ds := e
            rw [e2] at e
            cases e
            obtain ⟨a1, a2, a3⟩ := ih w _ d r0 e1
            obtain ⟨b1, b2, b3⟩ := ihw _ ds' rr e2
            refine ⟨.cons a1 b1, ?_, ?_⟩
            · rw [Da.pys, PyData.canLayAll0, a2, b2]; rfl
            · rw [Da.pys, PyData.depthAll]; exact Nat.max_le.mpr ⟨a3, b3⟩
  intro n
  induction n with
  | zero =>
    intro w v d r e
    cases r with
    | non => cases e; exact ⟨.non, rfl, Nat.le_refl _⟩
    | bl b => cases e; exact ⟨.bl b, rfl, Nat.le_refl _⟩
    | int i => cases e; exact ⟨.int i, rfl, Nat.le_refl _⟩
    | str s o =>
      cases e
      refine ⟨.str _, ?_, Nat.le_refl _⟩
      show PyData.strOk (sS s) = true
      unfold PyData.strOk sS
      simp
      exact o
    | _ => cases e
  | succ n ih =>
    intro w v d r e
    cases r with
    | non => cases e; exact ⟨.non, rfl, Nat.zero_le _⟩
    | bl b => cases e; exact ⟨.bl b, rfl, Nat.zero_le _⟩
    | int i => cases e; exact ⟨.int i, rfl, Nat.zero_le _⟩
    | str s o =>
      cases e
      refine ⟨.str _, ?_, Nat.zero_le _⟩
      show PyData.strOk (sS s) = true
      unfold PyData.strOk sS
      simp
      exact o
    | @tup p vs ws q rr =>
      rw [daOf] at e
      cases e1 : mapO (daOf h n) ws with
      | none => rw [e1] at e; cases e
      | some ds =>
        rw [e1] at e
        cases e
        obtain ⟨a1, a2, a3⟩ := all n ih ws vs ds rr e1
        refine ⟨.tup q a1, ?_, ?_⟩
        · rw [Da.py, PyData.canLay0]; exact a2
        · rw [Da.py, PyData.depth]; omega
    | @fl p vs ws q rr =>
      rw [daOf] at e
      cases e1 : mapO (daOf h n) ws with
      | none => rw [e1] at e; cases e
      | some ds =>
        rw [e1] at e
        cases e
        obtain ⟨a1, a2, a3⟩ := all n ih ws vs ds rr e1
        refine ⟨.lst q.l a1, ?_, ?_⟩
        · rw [Da.py, PyData.canLay0]; exact a2
        · rw [Da.py, PyData.depth]; omega
    | obj q a b t => rw [daOf] at e <;> first | cases e | simp
    | @ref i hi =>
      rw [daOf] at e
      split at e
      · rename_i ws ei
        obtain ⟨vs, hv1, hv2⟩ := C.cell i _ ei
        cases e1 : mapO (daOf h n) ws with
        | none => rw [e1] at e; cases e
        | some ds =>
          rw [e1] at e
          cases e
          obtain ⟨a1, a2, a3⟩ := all n ih ws vs ds hv2 e1
          refine ⟨.lst (.of hv1) a1, ?_, ?_⟩
          · rw [Da.py, PyData.canLay0]; exact a2
          · rw [Da.py, PyData.depth]; omega
      · cases e
    | err _ => simp [daOf] at e
    | errF _ _ _ => simp [daOf] at e
theorem eqW_of (C : Cells K cls φ h H) {w u : PF.W} {x y : V} {b : Bool} (r : VR K φ h.length H w x) (q : VR K φ h.length H u y) (e : eqW w u h = some b) :
    ∃ d e, Dp K H x d ∧ Dp K H y e ∧ SeqAt.shaped d = true ∧ SeqAt.shaped e = true ∧ PyData.eqv d e = b := by
  unfold eqW at e
  split at e
  · rename_i d1 d2 e1 e2
    cases e
    obtain ⟨a1, a2, a3⟩ := Dp_of C _ _ _ _ r e1
    obtain ⟨b1, b2, b3⟩ := Dp_of C _ _ _ _ q e2
    have l : deepest ≤ 64 := by decide
    refine ⟨_, _, a1, b1, ?_, ?_, Da.eqv_py _ _⟩
    · unfold SeqAt.shaped; rw [a2, Bool.true_and]; exact decide_eq_true (Nat.le_trans a3 l)
    · unfold SeqAt.shaped; rw [b2, Bool.true_and]; exact decide_eq_true (Nat.le_trans b3 l)
  · cases e
end
theorem o_eq (hu : X.A.units + 64 < cLine) : OpR X (compareOp .Eq) (rO X.K cls oEq) := by
  rintro pins s σ H x y v u Q I rx ry ⟨φ, h, w1, w2, E, C, r1, r2, p⟩
  unfold oEq at p
  split at p
  · rename_i b e
    obtain ⟨d, d', h1, h2, h3, h4, rfl⟩ := eqW_of C r1 r2 e
    exact op_eqD hu pins s σ H _ _ v u Q I rx ry ⟨d, d', h1, h2, h3, h4, rO_ok C p (.bl _)⟩
  · exact p.elim
theorem g_eq : GrO oEq := fun w u h => by
  unfold oEq
  split <;> first | exact Nat.le_refl _ | trivial
theorem o_ne (hu : X.A.units + 64 < cLine) : OpR X (compareOp .NotEq) (rO X.K cls oNe) := by
  rintro pins s σ H x y v u Q I rx ry ⟨φ, h, w1, w2, E, C, r1, r2, p⟩
  unfold oNe at p
  split at p
  · rename_i b e
    obtain ⟨d, d', h1, h2, h3, h4, rfl⟩ := eqW_of C r1 r2 e
    exact op_neD hu pins s σ H _ _ v u Q I rx ry ⟨d, d', h1, h2, h3, h4, rO_ok C p (.bl _)⟩
  · exact p.elim
theorem g_ne : GrO oNe := fun w u h => by
  unfold oNe
  split <;> first | exact Nat.le_refl _ | trivial
end
end PF
namespace PF
open PySem PySem.Spec PyProof.Rows L2
section
variable {X : Cx} {cls : Cl} {W : WX}
/-! ### subscripts -/
theorem atW_eq {α : Type} (xs : List α) (i : Int) : atW xs i = L2.atI xs i := rfl
theorem VRs.at {K : PySem.W.Frag} {φ : Phi} {n : Nat} {H : Hp} {ws : List PF.W} {vs : List V} {i : Int} {w : PF.W} (r : VRs K φ n H ws vs) (e : atW ws i = some w) : ∃ v, L2.atI vs i = some v ∧ VR K φ n H w v := by
  unfold atW at e
  unfold L2.atI
  rw [← r.length]
  cases h : ixW ws.length i with
  | none => rw [h] at e; cases e
  | some j =>
    rw [h] at e
    have h' : L2.ixN ws.length i = some j := h
    rw [h']
    exact r.get e
theorem okO_post {K : PySem.W.Frag} {φ : Phi} {n : Nat} {H : Hp} {E : XK} {Q : VK} {o : Option PF.W} {h : Hs} (p : Post K cls (rW K) φ n H E Q (okO o h)) : ∃ w, o = some w ∧ Post K cls (rW K) φ n H E Q (.ok w h) := by
  cases o with
  | none => exact p.elim
  | some w => exact ⟨w, rfl, p⟩
theorem okO_grows (o : Option PF.W) (h : Hs) : grows h.length (okO o h) := by
  cases o with
  | none => trivial
  | some w => exact Nat.le_refl _
theorem strIx {z : List Nat} {i : Int} {w : PF.W} (e : ((atW z i).map fun c => PF.W.str [c]) = some w) : ∃ c, atW z i = some c ∧ c ∈ z ∧ w = .str [c] := by
  cases e1 : atW z i with
  | none => rw [e1] at e; cases e
  | some c =>
    rw [e1] at e
    cases e
    refine ⟨c, rfl, ?_, rfl⟩
    unfold atW at e1
    cases h2 : ixW z.length i with
    | none => rw [h2] at e1; cases e1
    | some j => rw [h2] at e1; exact List.mem_of_getElem? e1
theorem keyV_inj {a b : Key} (e : keyV a = keyV b) : a = b := by
  cases a <;> cases b <;> simp [keyV] at e
  · rw [e]
  · rw [sS_inj e]
theorem key_ok {K : PySem.W.Frag} {φ : Phi} {n : Nat} {H : Hp} {w : PF.W} {v : V} {k : Key} (r : VR K φ n H w v) (e : keyOf w = some k) : okK k := by
  cases r <;> simp [keyOf] at e <;> subst e
  · trivial
  · assumption
theorem key_at {K : PySem.W.Frag} {φ : Phi} {n : Nat} {H : Hp} {w : PF.W} {v : V} {k : Key} (r : VR K φ n H w v) (e : keyOf w = some k) : v = kV (keyV k) := by
  cases r <;> simp [keyOf] at e <;> subst e <;> rfl
theorem KR.look {K : PySem.W.Frag} {φ : Phi} {n : Nat} {H : Hp} (k : Key) : ∀ {kvs : List (Key × PF.W)} {ks : List (L2.Key × V)}, KR K φ n H kvs ks →
    (∃ w v, lookK kvs k = some w ∧ L2.valV ks (keyV k) = some v ∧ VR K φ n H w v) ∨ (lookK kvs k = none ∧ L2.valV ks (keyV k) = none)
  | [], _, .nil => .inr ⟨rfl, rfl⟩
  | p :: kvs, _, .cons (b := q) r t => by
    obtain ⟨⟨r1, _⟩, r2⟩ := r
    unfold lookK
    by_cases e : p.1 = k
    · refine .inl ⟨p.2, q.2, if_pos e, L2.valV_pos (by rw [r1, e]), r2⟩
    · rw [if_neg e, L2.valV_neg (fun z => e (keyV_inj (r1.symm.trans z)))]
      exact KR.look k t
theorem ix_dK : IxR X (fun x y H Q => ∃ a kvs k z, x = .ref a ∧ y = kV k ∧ H a = some (.dK kvs) ∧ L2.valV kvs k = some z ∧ Q z H) := by
  intro value slice pins s σ H x y v u Q I rx ry h hs
  obtain ⟨a, kvs, k, z, rfl, rfl, e, l, q⟩ := h
  cases rx
  obtain ⟨zz, hd, vs, rel, dd⟩ := dk_of I.hok e
  obtain ⟨w', hw, rw'⟩ := RelO.some_of (v := z) (o := valueAt vs k) (by rw [← l]; exact rel.val k)
  exact subscriptTail_builtinR (x := w') dd.typeIs PySem.F.slot_dict_getitem.lookup (wpAny_getItem_of (Q := fun r s' => r = w' ∧ EP X pins σ Q r s') (kV_is ry) dd.mapOf hw ⟨rfl, z, H, I.tok _, rw', q⟩) hs
theorem ix_s : IxR X (rO X.K cls oIx) := by
  rintro value slice pins s σ H x y v u Q I rx ry ⟨φ, h, w1, w2, E, C, r1, r2, p⟩ hs
  unfold oIx at p
  split at p
  · cases r2
    cases r1 with
    | tup q t =>
      obtain ⟨w, e, p⟩ := okO_post p
      obtain ⟨z, hz, rz⟩ := t.at e
      exact ix_tup value slice pins s σ H _ _ v u Q I rx ry ⟨_, _, _, z, rfl, rfl, q, hz, rO_ok C p rz⟩ hs
  · cases r2
    cases r1 with
    | fl q t =>
      obtain ⟨w, e, p⟩ := okO_post p
      obtain ⟨z, hz, rz⟩ := t.at e
      exact ix_list value slice pins s σ H _ _ v u Q I rx ry ⟨_, _, _, z, rfl, rfl, q.l, hz, rO_ok C p rz⟩ hs
  · cases r2
    split at p
    · rename_i ws ei
      cases r1 with
      | ref hi =>
        obtain ⟨vs, hv1, hv2⟩ := C.cell _ _ ei
        obtain ⟨w, e, p⟩ := okO_post p
        obtain ⟨z, hz, rz⟩ := hv2.at e
        exact ix_list value slice pins s σ H _ _ v u Q I rx ry ⟨_, _, _, z, rfl, rfl, .of hv1, hz, rO_ok C p rz⟩ hs
    · rename_i kvs ei
      cases r1 with
      | ref hi =>
        obtain ⟨ks, hv1, hv2⟩ := C.cell _ _ ei
        obtain ⟨w, e, p⟩ := okO_post p
        rcases KR.look (.inl _) hv2 with ⟨w', z, e1, e2, rz⟩ | ⟨e1, _⟩
        · rw [e1] at e
          cases e
          exact ix_dK value slice pins s σ H _ _ v u Q I rx ry ⟨_, _, _, z, rfl, rfl, hv1, e2, rO_ok C p rz⟩ hs
        · rw [e1] at e; cases e
    · exact p.elim
  · cases r2
    split at p
    · rename_i kvs ei
      cases r1 with
      | ref hi =>
        obtain ⟨ks, hv1, hv2⟩ := C.cell _ _ ei
        obtain ⟨w, e, p⟩ := okO_post p
        rcases KR.look (.inr _) hv2 with ⟨w', z, e1, e2, rz⟩ | ⟨e1, _⟩
        · rw [e1] at e
          cases e
          exact ix_dK value slice pins s σ H _ _ v u Q I rx ry ⟨_, _, _, z, rfl, rfl, hv1, e2, rO_ok C p rz⟩ hs
        · rw [e1] at e; cases e
    · exact p.elim
  · cases r2
    split at p
    · rename_i hl
      cases r1 with
      | str _ hz =>
        obtain ⟨w, e, p⟩ := okO_post p
        obtain ⟨c, e1, hc, rfl⟩ := strIx e
        refine ix_str value slice pins s σ H _ _ v u Q I rx ry ⟨_, _, c, rfl, rfl, ?_, ?_, ?_⟩ hs
        · rw [sS_len, ← bigL_eq]; exact hl
        · have e2 : ∀ z : List Nat, (sS z).cps.toList = z := fun z => by simp [sS]
          rw [e2]
          exact e1
        · exact rO_ok C p (.str [c] (fun d hd => by rw [List.mem_singleton.mp hd]; exact hz c hc))
    · exact p.elim
  · exact p.elim
theorem g_ix : GrO oIx := fun w u h => by
  unfold oIx
  split
  · exact okO_grows _ _
  · exact okO_grows _ _
  · split
    · exact okO_grows _ _
    · exact okO_grows _ _
    · trivial
  · split
    · exact okO_grows _ _
    · trivial
  · split
    · exact okO_grows _ _
    · trivial
  · trivial
theorem re_ix {a b : Expr} {pos : Pos} {da db : PF.D} (ha : RE X cls W a da) (hb : RE X cls W b db) (hs : PlainIx b := by exact fun _ _ => rfl) : RE X cls W (.Subscript a b pos) (dBin oIx da db) :=
  ⟨(pe_ix ix_s ha.pe hb.pe hs).imp fun _ _ _ t => t.bin ha.g hb.g, grow_bin g_ix ha.g hb.g⟩
/-! ### slices -/
def rP : Rl (Option Int) (Option Int) := fun _ _ _ a b => a = b
structure RP (X : Cx) (cls : Cl) (W : WX) (e : Option Expr) (d : PF.P) : Prop where
  po : PO X e (tG X.K cls rP W d)
  g : Grow d
theorem _root_.L2.PO.imp {X : Cx} {e : Option Expr} {t t' : TO} (h : PO X e t) (i : ∀ σ H Q, t' σ H Q → t σ H Q) : PO X e t' := ⟨fun pins s σ H Q I q => h.run pins s σ H Q I (i _ _ _ q)⟩
theorem rp_no : RP X cls W none pNo := ⟨po_none.imp fun σ H Q t => t.ok fun φ h ρ x p => p φ none H (Ext.refl _ _) (Keep.refl _) x.C rfl, fun _ _ => Nat.le_refl _⟩
theorem rp_at {e : Expr} {d : PF.D} (he : RE X cls W e d) : RP X cls W (some e) (pAt d) :=
  ⟨(po_some he.pe).imp fun σ H Q t => t.ok fun φ h ρ x p => x.first (he.g ρ h) p fun v H1 φ1 w1 h1 g1 x1 p1 => by
    have r1 : VR X.K φ1 h1.length H1 w1 v := g1.r
    split at p1
    · cases r1
      exact ⟨_, rfl, p1 φ1 _ H1 (Ext.refl _ _) (Keep.refl _) g1.C rfl⟩
    · exact p1.elim,
   fun ρ h => (he.g ρ h).bind fun w h1 _ l => by split <;> first | exact l | trivial⟩
theorem VRs.cutW {K : PySem.W.Frag} {φ : Phi} {n : Nat} {H : Hp} {ws : List PF.W} {vs : List V} (r : VRs K φ n H ws vs) (lo hi : Option Int) : VRs K φ n H (PF.cutW ws lo hi) (L2.cutV vs lo hi) := by
  unfold PF.cutW L2.cutV
  rw [← r.length]
  exact (r.drop _).take _
theorem cutW_all {α : Type} {ws : List α} {lo hi : Option Int} (h1 : sIxW ws.length 0 lo = 0) (h2 : sIxW ws.length ws.length hi = ws.length) : PF.cutW ws lo hi = ws := by
  unfold PF.cutW
  rw [h1, h2, List.drop_zero, Nat.sub_zero, List.take_length]
def rSl (K : PySem.W.Frag) (cls : Cl) : V → Option Int → Option Int → Hp → VK → Prop := fun x lo hi H Q => ∃ φ h w E, Cells K cls φ h H ∧ VR K φ h.length H w x ∧ Post K cls (rW K) φ h.length H E Q (oSl w lo hi h)
theorem cutS_eq (z : List Nat) (lo hi : Option Int) : L2.cutS (sS z) lo hi = sS (PF.cutW z lo hi) := by
  unfold L2.cutS PF.cutW
  rw [sS_len]
  have e : (sS z).cps.toList = z := by simp [sS]
  rw [e]
  rfl
theorem okS_cut {z : List Nat} (h : okS z) (lo hi : Option Int) : okS (PF.cutW z lo hi) := fun c hc => h c (List.mem_of_mem_drop (List.mem_of_mem_take hc))
theorem slice_s : SlR X (rSl X.K cls) := by
  rintro pins s σ H x v vl vu lo hi sl Q I rx hs pl pu ⟨φ, h, w, E, C, r, p⟩
  unfold oSl at p
  split at p
  · cases r with
    | tup q t =>
      refine sl_tupA pins s σ H _ v vl vu _ _ sl Q I rx hs pl pu ⟨_, _, rfl, q, fun hz => ?_, fun _ => post_tup C (t.cutW _ _) p⟩
      refine rO_ok C p ?_
      have l := t.length
      rw [cutW_all (by rw [l]; exact hz.1) (by rw [l]; exact hz.2)]
      exact .tup q t
  · cases r with
    | fl q t => exact sl_list pins s σ H _ v vl vu _ _ sl Q I rx hs pl pu ⟨_, _, rfl, q.l, post_lst C (t.cutW _ _) p⟩
  · split at p
    · rename_i ws ei
      cases r with
      | ref hi' =>
        obtain ⟨vs, hv1, hv2⟩ := C.cell _ _ ei
        exact sl_list pins s σ H _ v vl vu _ _ sl Q I rx hs pl pu ⟨_, _, rfl, .of hv1, post_lst C (hv2.cutW _ _) p⟩
    · exact p.elim
  · split at p
    · rename_i hl
      cases r with
      | str z hz =>
        refine sl_str pins s σ H _ v vl vu _ _ sl Q I rx hs pl pu ⟨_, rfl, ?_, ?_⟩
        · rw [sS_len, ← bigL_eq]; exact hl
        · rw [cutS_eq]; exact rO_ok C p (.str _ (okS_cut hz _ _))
    · exact p.elim
  · exact p.elim
theorem g_sl (w : PF.W) (lo hi : Option Int) (h : Hs) : grows h.length (oSl w lo hi h) := by
  unfold oSl
  split
  · exact Nat.le_refl _
  · exact newL_grows _ _
  · split
    · exact newL_grows _ _
    · trivial
  · split
    · exact Nat.le_refl _
    · trivial
  · trivial
theorem re_sl {e : Expr} {lo hi : Option Expr} {pos p2 : Pos} {d : PF.D} {l u : PF.P} (he : RE X cls W e d) (hl : RP X cls W lo l) (hu : RP X cls W hi u) : RE X cls W (.Subscript e (.Slice lo hi none p2) pos) (dSl d l u) :=
  ⟨(pe_slice slice_s he.pe hl.po hu.po).imp fun σ H Q t => t.ok fun φ h ρ x p => x.first (he.g ρ h) p fun v H1 φ1 w1 h1 g1 x1 p1 => x1.first (hl.g ρ h1) p1 fun a H2 φ2 a2 h2 g2 x2 p2 => x2.first (hu.g ρ h2) p2 fun b H3 φ3 b3 h3 g3 x3 p3 => by
    have e2 : a2 = a := g2.r
    have e3 : b3 = b := g3.r
    subst e2 e3
    exact ⟨φ3, h3, w1, _, g3.C, VR.mono g3.e g3.l g3.k (VR.mono g2.e g2.l g2.k g1.r), p3⟩,
   fun ρ h => (he.g ρ h).bind fun w h1 _ l1 => ((hl.g ρ h1).le l1).bind fun a h2 _ l2 => ((hu.g ρ h2).le l2).bind fun b h3 _ l3 => (g_sl w a b h3).le l3⟩
end
end PF
namespace PF
open PySem PySem.Spec PyProof.Rows L2
section
variable {X : Cx} {cls : Cl} {W : WX}
/-! ### built-in functions and classes by name -/
theorem re_biB {id : String} {f : Fn} {x : PySem.Str} {p pos : Pos} {e : Expr} {es : List Expr} {as : As} (hc : CallR X (.builtin id) (rC X.K cls f)) (gf : GrC f) (hg : Gl X x) (hm : X.mg x = none) (hv : bootBuiltins x = some (.builtin id)) (ha : RA X cls W (e :: es) as) (hn : x ≠ "__name__" := by decide) (hdb : (x == ("__debug__" : PySem.Str)) = false := by decide)
    (he : starEach (e :: es) X.env = (false, eval e X.env) :: starEach es X.env := by rfl) (hpl : (backTo pos (starEach es X.env)).any (·.1) = false := by rfl) : RE X cls W (.Call (.Name x p) (e :: es) [] pos) (dCall f as) :=
  ⟨(pe_callB hc hg hm hv ha.pa hn hdb he hpl).imp fun σ H Q t => t.call ha.g, grow_call gf ha.g⟩
theorem re_biT {T : String} {f : Fn} {x : PySem.Str} {p pos : Pos} {e : Expr} {es : List Expr} {as : As} (hc : CallR X (.type T) (rC X.K cls f)) (gf : GrC f) (hg : Gl X x) (hm : X.mg x = none) (hv : bootBuiltins x = some (.type T)) (ha : RA X cls W (e :: es) as) (hn : x ≠ "__name__" := by decide) (hdb : (x == ("__debug__" : PySem.Str)) = false := by decide)
    (he : starEach (e :: es) X.env = (false, eval e X.env) :: starEach es X.env := by rfl) (hpl : (backTo pos (starEach es X.env)).any (·.1) = false := by rfl) : RE X cls W (.Call (.Name x p) (e :: es) [] pos) (dCall f as) :=
  ⟨(pe_callTy hc hg hm hv ha.pa hn hdb he hpl).imp fun σ H Q t => t.call ha.g, grow_call gf ha.g⟩
theorem c_abs : CallR X (.builtin "abs") (rC X.K cls bAbs) := by
  rintro pins s σ H xs us Q I r ⟨φ, h, ws, E, C, rs, p⟩
  unfold bAbs at p
  split at p
  · cases rs with
    | cons r1 rs => cases rs; cases r1; exact call_abs pins s σ H _ us Q I r ⟨_, rfl, rO_ok C p (.int _)⟩
  · exact p.elim
theorem gc_abs : GrC bAbs := fun ws h => by
  unfold bAbs
  split <;> first | exact Nat.le_refl _ | trivial
theorem c_max2 (hc : X.calm = true) : CallR X (.builtin "max") (rC X.K cls bMax2) := by
  rintro pins s σ H xs us Q I r ⟨φ, h, ws, E, C, rs, p⟩
  unfold bMax2 at p
  split at p
  · cases rs with
    | cons r1 rs => cases rs with
      | cons r2 rs => cases rs; cases r1; cases r2; exact call_max2 hc pins s σ H _ us Q I r ⟨_, _, rfl, rO_ok C p (.int _)⟩
  · exact p.elim
theorem gc_max2 : GrC bMax2 := fun ws h => by
  unfold bMax2
  split <;> first | exact Nat.le_refl _ | trivial
theorem c_min2 (hc : X.calm = true) : CallR X (.builtin "min") (rC X.K cls bMin2) := by
  rintro pins s σ H xs us Q I r ⟨φ, h, ws, E, C, rs, p⟩
  unfold bMin2 at p
  split at p
  · cases rs with
    | cons r1 rs => cases rs with
      | cons r2 rs => cases rs; cases r1; cases r2; exact call_min2 hc pins s σ H _ us Q I r ⟨_, _, rfl, rO_ok C p (.int _)⟩
  · exact p.elim
theorem gc_min2 : GrC bMin2 := fun ws h => by
  unfold bMin2
  split <;> first | exact Nat.le_refl _ | trivial
theorem call_divmodZ : CallR X (.builtin "divmod") (fun xs H Q => ∃ i j, xs = [.int i, .int j] ∧ divOK i j ∧ ∀ p, H p = none → Q (.ref p) (upd H p (.tup [.int (i.fdiv j), .int (i.fmod j)]))) := by
  intro pins s σ H xs us Q I r h
  obtain ⟨i, j, rfl, ⟨h1, h2⟩, q⟩ := h
  obtain ⟨u, w', rfl, ⟨t, rfl⟩, ⟨t', rfl⟩⟩ := vals2 r
  refine divmod_int h1 ?_ (.inl h2)
  have hn : H s.heap.objs.size = none := I.hok.fresh (Nat.le_refl _)
  refine ⟨.ref s.heap.objs.size, _, ?_, rfl, q _ hn⟩
  refine I.laid (fun b o e => Heap.get?_push_of_some _ e) (Nat.le_refl _) ⟨by simp only [List.length_cons, List.length_nil]; rw [sizeLine_eq]; decide, [.int (i.fdiv j) s.toks, .int (i.fmod j) (s.toks + 1)], .cons ⟨_, rfl⟩ (.cons ⟨_, rfl⟩ .nil), ?_⟩
  exact ⟨_, Heap.get?_push_size s.heap rfl, rfl, 0, rfl⟩
theorem c_divmod : CallR X (.builtin "divmod") (rC X.K cls bDivmod) := by
  rintro pins s σ H xs us Q I r ⟨φ, h, ws, E, C, rs, p⟩
  unfold bDivmod at p
  split at p
  · split at p
    · rename_i hd
      cases rs with
      | cons r1 rs => cases rs with
        | cons r2 rs =>
          cases rs; cases r1; cases r2
          exact call_divmodZ pins s σ H _ us Q I r ⟨_, _, rfl, hd, post_tup C (.cons (.int _) (.cons (.int _) .nil)) p⟩
    · exact p.elim
  · exact p.elim
theorem gc_divmod : GrC bDivmod := fun ws h => by
  unfold bDivmod
  split
  · split <;> first | exact Nat.le_refl _ | trivial
  · trivial
theorem c_len : CallR X (.builtin "len") (rC X.K cls bLen) := by
  rintro pins s σ H xs us Q I r ⟨φ, h, ws, E, C, rs, p⟩
  unfold bLen at p
  split at p
  · cases rs with
    | cons r1 rs =>
      cases rs
      cases r1 with
      | tup q t => exact call_len_seq pins s σ H _ us Q I r ⟨_, _, rfl, .inr q, by rw [← t.length]; exact rO_ok C p (.int _)⟩
  · cases rs with
    | cons r1 rs =>
      cases rs
      cases r1 with
      | fl q t => exact call_len_seq pins s σ H _ us Q I r ⟨_, _, rfl, .inl q.l, by rw [← t.length]; exact rO_ok C p (.int _)⟩
  · split at p
    · rename_i hl
      cases rs with
      | cons r1 rs =>
        cases rs
        cases r1 with
        | str _ hz => exact call_len_str pins s σ H _ us Q I r ⟨_, rfl, by rw [sS_len, ← bigL_eq]; exact hl, by rw [sS_len]; exact rO_ok C p (.int _)⟩
    · exact p.elim
  · cases rs with
    | cons r1 rs =>
      cases rs
      cases r1 with
      | ref hi =>
        split at p
        · rename_i ws ei
          obtain ⟨vs, hv1, hv2⟩ := C.cell _ _ ei
          exact call_len_seq pins s σ H _ us Q I r ⟨_, _, rfl, .inl (.of hv1), by rw [← hv2.length]; exact rO_ok C p (.int _)⟩
        · rename_i kvs ei
          obtain ⟨vs, hv1, hv2⟩ := C.cell _ _ ei
          exact call_lenD pins s σ H _ us Q I r ⟨_, _, rfl, hv1, by rw [← Paired.length hv2]; exact rO_ok C p (.int _)⟩
        · exact p.elim
  · exact p.elim
theorem gc_len : GrC bLen := fun ws h => by
  unfold bLen
  split
  · exact Nat.le_refl _
  · exact Nat.le_refl _
  · split <;> first | exact Nat.le_refl _ | trivial
  · split <;> first | exact Nat.le_refl _ | trivial
  · trivial
theorem c_int : CallR X (.type "int") (rC X.K cls bInt) := by
  rintro pins s σ H xs us Q I r ⟨φ, h, ws, E, C, rs, p⟩
  unfold bInt at p
  split at p
  · cases rs with
    | cons r1 rs => cases rs; cases r1; exact call_int1 pins s σ H _ us Q I r (.inl ⟨_, rfl, rO_ok C p (.int _)⟩)
  · cases rs with
    | cons r1 rs => cases rs; cases r1; exact call_int1 pins s σ H _ us Q I r (.inr ⟨_, rfl, rO_ok C p (.int _)⟩)
  · exact p.elim
theorem gc_int : GrC bInt := fun ws h => by
  unfold bInt
  split <;> first | exact Nat.le_refl _ | trivial
theorem seqOf_at {K : PySem.W.Frag} {φ : Phi} {h : Hs} {H : Hp} {w : PF.W} {v : V} {ws : List PF.W} (C : Cells K cls φ h H) (r : VR K φ h.length H w v) (e : seqOf w h = some ws) : ∃ a vs, v = .ref a ∧ (SqL K H a vs ∨ SqT K H a vs) ∧ VRs K φ h.length H ws vs := by
  cases r with
  | tup q t => cases e; exact ⟨_, _, rfl, .inr q, t⟩
  | fl q t => cases e; exact ⟨_, _, rfl, .inl q.l, t⟩
  | @ref i hi =>
    have e' : lstOf (.ref i) h = some ws := e
    obtain ⟨a, vs, h1, h2, h3⟩ := lstOf_at C (.ref hi) e'
    exact ⟨a, vs, h1, .inl h2, h3⟩
  | _ => cases e
theorem c_list : CallR X (.type "list") (rC X.K cls bList) := by
  rintro pins s σ H xs us Q I r ⟨φ, h, ws, E, C, rs, p⟩
  unfold bList at p
  split at p
  · split at p
    · rename_i ws e
      cases rs with
      | cons r1 rs =>
        cases rs
        obtain ⟨a, vs, rfl, hs, ht⟩ := seqOf_at C r1 e
        exact call_list_of pins s σ H _ us Q I r ⟨a, vs, rfl, hs, post_lst C ht p⟩
    · exact p.elim
  · exact p.elim
theorem gc_list : GrC bList := fun ws h => by
  unfold bList
  split
  · split
    · exact newL_grows _ _
    · trivial
  · trivial
theorem c_tuple : CallR X (.type "tuple") (rC X.K cls bTuple) := by
  rintro pins s σ H xs us Q I r ⟨φ, h, ws, E, C, rs, p⟩
  unfold bTuple at p
  split at p
  · cases rs with
    | cons r1 rs =>
      cases rs
      cases r1 with
      | tup q t => exact call_tuple_of pins s σ H _ us Q I r ⟨_, _, rfl, .inr ⟨q, rO_ok C p (.tup q t)⟩⟩
  · split at p
    · rename_i ws e
      cases rs with
      | cons r1 rs =>
        cases rs
        obtain ⟨a, vs, rfl, hs, ht⟩ := lstOf_at C r1 e
        exact call_tuple_of pins s σ H _ us Q I r ⟨a, vs, rfl, .inl ⟨hs, post_tup C ht p⟩⟩
    · exact p.elim
  · exact p.elim
theorem gc_tuple : GrC bTuple := fun ws h => by
  unfold bTuple
  split
  · exact Nat.le_refl _
  · split <;> first | exact Nat.le_refl _ | trivial
  · trivial
theorem intsOf_at {K : PySem.W.Frag} {φ : Phi} {n : Nat} {H : Hp} : ∀ {ws : List PF.W} {vs : List V} {is : List Int}, VRs K φ n H ws vs → intsOf ws = some is → vs = is.map V.int
  | [], _, _, .nil, e => by cases e; rfl
  | .int i :: ws, _, is, .cons (.int _) t, e => by
    rw [intsOf] at e
    cases h : intsOf ws with
    | none => rw [h] at e; cases e
    | some js =>
      rw [h] at e
      cases e
      rw [List.map_cons, intsOf_at t h]
theorem blsOf_at {K : PySem.W.Frag} {φ : Phi} {n : Nat} {H : Hp} : ∀ {ws : List PF.W} {vs : List V} {is : List Bool}, VRs K φ n H ws vs → blsOf ws = some is → vs = is.map V.bl
  | [], _, _, .nil, e => by cases e; rfl
  | .bl i :: ws, _, is, .cons (.bl _) t, e => by
    rw [blsOf] at e
    cases h : blsOf ws with
    | none => rw [h] at e; cases e
    | some js =>
      rw [h] at e
      cases e
      rw [List.map_cons, blsOf_at t h]
theorem ints_at {K : PySem.W.Frag} {φ : Phi} {h : Hs} {H : Hp} {w : PF.W} {v : V} {is : List Int} (C : Cells K cls φ h H) (r : VR K φ h.length H w v) (e : (lstOf w h).bind intsOf = some is) : ∃ a, v = .ref a ∧ SqL K H a (is.map V.int) := by
  cases e1 : lstOf w h with
  | none => rw [e1] at e; cases e
  | some ws =>
    rw [e1] at e
    obtain ⟨a, vs, rfl, hs, ht⟩ := lstOf_at C r e1
    exact ⟨a, rfl, by rw [← intsOf_at ht e]; exact hs⟩
theorem bls_at {K : PySem.W.Frag} {φ : Phi} {h : Hs} {H : Hp} {w : PF.W} {v : V} {is : List Bool} (C : Cells K cls φ h H) (r : VR K φ h.length H w v) (e : (lstOf w h).bind blsOf = some is) : ∃ a, v = .ref a ∧ SqL K H a (is.map V.bl) := by
  cases e1 : lstOf w h with
  | none => rw [e1] at e; cases e
  | some ws =>
    rw [e1] at e
    obtain ⟨a, vs, rfl, hs, ht⟩ := lstOf_at C r e1
    exact ⟨a, rfl, by rw [← blsOf_at ht e]; exact hs⟩
theorem c_sum (hc : X.calm = true) : CallR X (.builtin "sum") (rC X.K cls bSum) := by
  rintro pins s σ H xs us Q I r ⟨φ, h, ws, E, C, rs, p⟩
  unfold bSum at p
  split at p
  · split at p
    · rename_i is e
      cases rs with
      | cons r1 rs =>
        cases rs
        obtain ⟨a, rfl, hs⟩ := ints_at C r1 e
        exact cr_sum hc pins s σ H _ us Q I r ⟨a, is, rfl, hs, rO_ok C p (.int _)⟩
    · exact p.elim
  · exact p.elim
theorem gc_sum : GrC bSum := fun ws h => by
  unfold bSum
  split
  · split <;> first | exact Nat.le_refl _ | trivial
  · trivial
theorem c_all (hc : X.calm = true) : CallR X (.builtin "all") (rC X.K cls bAll) := by
  rintro pins s σ H xs us Q I r ⟨φ, h, ws, E, C, rs, p⟩
  unfold bAll at p
  split at p
  · split at p
    · rename_i is e
      cases rs with
      | cons r1 rs =>
        cases rs
        obtain ⟨a, rfl, hs⟩ := bls_at C r1 e
        exact cr_all hc pins s σ H _ us Q I r ⟨a, is, rfl, hs, rO_ok C p (.bl _)⟩
    · exact p.elim
  · exact p.elim
theorem gc_all : GrC bAll := fun ws h => by
  unfold bAll
  split
  · split <;> first | exact Nat.le_refl _ | trivial
  · trivial
theorem c_any (hc : X.calm = true) : CallR X (.builtin "any") (rC X.K cls bAny) := by
  rintro pins s σ H xs us Q I r ⟨φ, h, ws, E, C, rs, p⟩
  unfold bAny at p
  split at p
  · split at p
    · rename_i is e
      cases rs with
      | cons r1 rs =>
        cases rs
        obtain ⟨a, rfl, hs⟩ := bls_at C r1 e
        exact cr_any hc pins s σ H _ us Q I r ⟨a, is, rfl, hs, rO_ok C p (.bl _)⟩
    · exact p.elim
  · exact p.elim
theorem gc_any : GrC bAny := fun ws h => by
  unfold bAny
  split
  · split <;> first | exact Nat.le_refl _ | trivial
  · trivial
end
end PF
namespace PF
open PySem PySem.Spec PyProof.Rows L2
def Ty.nm : Ty → String
  | .int => "int"
  | .bool => "bool"
  | .str => "str"
  | .tuple => "tuple"
  | .list => "list"
section
variable {X : Cx} {cls : Cl} {W : WX}
/-! ### isinstance(e, kind) -/
theorem isTy_at {K : PySem.W.Frag} {φ : Phi} {h : Hs} {H : Hp} {w : PF.W} {v : V} {t : Ty} {b : Bool} (C : Cells K cls φ h H) (r : VR K φ h.length H w v) (e : isTy t w h = some b) : ∃ a : String, TyX K H v (.type a) ∧ kitB a t.nm = some b := by
  cases r with
  | non => cases e; exact ⟨_, .base .non, by cases t <;> decide +kernel⟩
  | bl c => cases e; exact ⟨_, .base (.bl c), by cases t <;> decide +kernel⟩
  | int i => cases e; exact ⟨_, .base (.int i), by cases t <;> decide +kernel⟩
  | str s o => cases e; exact ⟨_, .base (.str _), by cases t <;> decide +kernel⟩
  | tup q _ =>
    cases e
    rcases q with (q | ⟨o, q⟩) | ⟨o, its, n, q, c, _⟩
    · exact ⟨_, .base (.tup q), by cases t <;> decide +kernel⟩
    · exact ⟨_, .fTuple q, by cases t <;> decide +kernel⟩
    · exact ⟨_, .kTuple q c, by cases t <;> decide +kernel⟩
  | fl q _ =>
    cases e
    rcases q with ⟨o, q⟩ | ⟨o, its, n, q, c, _⟩
    · exact ⟨_, .base (.frz q), by cases t <;> decide +kernel⟩
    · exact ⟨_, .kList q c, by cases t <;> decide +kernel⟩
  | @ref i hi =>
    unfold isTy at e
    dsimp only at e
    split at e
    · rename_i ws ei
      cases e
      obtain ⟨vs, hv, _⟩ := C.cell _ _ ei
      exact ⟨_, .base (.lst hv), by cases t <;> decide +kernel⟩
    · rename_i kvs ei
      cases e
      obtain ⟨vs, hv, _⟩ := C.cell _ _ ei
      exact ⟨_, .base (.dK hv), by cases t <;> decide +kernel⟩
    · cases e
  | err _ => cases e
  | errF _ _ _ => cases e
  | obj _ _ _ _ => cases e
theorem g_is (t : Ty) : GrU (oIs t) := fun w h => by
  unfold oIs
  split <;> first | exact Nat.le_refl _ | trivial
theorem re_is (t : Ty) {x : PySem.Str} {p p2 pos : Pos} {e : Expr} {d : PF.D} (hg : Gl X "isinstance") (hm : X.mg "isinstance" = none) (hg2 : Gl X x) (hm2 : X.mg x = none) (hv2 : bootBuiltins x = some (.type t.nm)) (he : RE X cls W e d) (hn2 : x ≠ "__name__" := by decide) (hdb2 : (x == ("__debug__" : PySem.Str)) = false := by decide)
    (hs : starEach [e, .Name x p2] X.env = (false, eval e X.env) :: starEach [.Name x p2] X.env := by rfl) (hs2 : starEach [.Name x p2] X.env = (false, eval (.Name x p2) X.env) :: starEach [] X.env := by rfl)
    (hpl : (backTo pos (starEach [.Name x p2] X.env)).any (·.1) = false := by rfl) : RE X cls W (.Call (.Name "isinstance" p) [e, .Name x p2] [] pos) (dUn (oIs t) d) := by
  refine ⟨(pe_callB call_isi hg hm (by decide +kernel) (pa_cons he.pe (pa_cons (pe_bltn (v := .ty t.nm) hg2 hm2 hv2 rfl hn2 hdb2) pa_nil hs2) hs) (by decide) (by decide) hs hpl).imp fun σ H Q t' => t'.ok fun φ h ρ x p => ?_, grow_un (g_is t) he.g⟩
  refine x.first (he.g ρ h) p fun v H1 φ1 w1 h1 g1 x1 p1 => ?_
  have r1 : VR X.K φ1 h1.length H1 w1 v := g1.r
  unfold oIs at p1
  split at p1
  · rename_i b e1
    obtain ⟨a, ht, hk⟩ := isTy_at g1.C r1 e1
    exact ⟨v, .ty t.nm, .type a, .type t.nm, b, rfl, .ty _, ht, kit_ty hk, rO_ok g1.C p1 (.bl b)⟩
  · exact p1.elim
/-! ### is None -/
theorem g_isN : GrU oIsN := fun w h => Nat.le_refl _
theorem g_notN : GrU oNotN := fun w h => Nat.le_refl _
theorem vr_non {K : PySem.W.Frag} {φ : Phi} {n : Nat} {H : Hp} {w : PF.W} {v : V} (r : VR K φ n H w v) : decide (w = .non) = decide (v = .non) := by
  cases r <;> simp
theorem re_isN {a : Expr} {j : Tok} {p pos : Pos} {d : PF.D} (he : RE X cls W a d) : RE X cls W (.Compare a [.Is] [.Constant .none j p] pos) (dUn oIsN d) :=
  ⟨(pe_cmp (pc_isN he.pe) rfl).imp fun σ H Q t => t.ok fun φ h ρ x p => x.first (he.g ρ h) p fun v H1 φ1 w1 h1 g1 x1 p1 => by
    have q := rO_ok g1.C p1 (.bl _)
    rw [vr_non g1.r] at q
    exact q, grow_un g_isN he.g⟩
theorem re_notN {a : Expr} {j : Tok} {p pos : Pos} {d : PF.D} (he : RE X cls W a d) : RE X cls W (.Compare a [.IsNot] [.Constant .none j p] pos) (dUn oNotN d) :=
  ⟨(pe_cmp (pc_notN he.pe) rfl).imp fun σ H Q t => t.ok fun φ h ρ x p => x.first (he.g ρ h) p fun v H1 φ1 w1 h1 g1 x1 p1 => by
    have q := rO_ok g1.C p1 (.bl _)
    rw [vr_non g1.r] at q
    exact q, grow_un g_notN he.g⟩
/-! ### raise -/
/-- what the top says of an own exception class -/
structure ExF (K : PySem.W.Frag) (mg : PySem.Str → Option Value) (C : Addr) (name : PySem.Str) : Prop where
  gC : mg name = some (.ref C)
  xC : PySem.W.excIn K C [.type "ValueError", .type "Exception", .type "BaseException", .type "object"] "ValueError.__new__" = true
  kC : PySem.W.keepIn K (.ref C) = true
  bC : PySem.W.subIn K (.ref C) (.type "BaseException") = some true
  tC : PySem.W.typeIn K (.ref C) = some (.type "type")
theorem rs_raise (c : Nat) {x m : PySem.Str} {j : Tok} {p p2 pos pos' : Pos} (hc : X.calm = true) (tk : Takes X W) (F : ExF X.K X.mg (cls c) x) (hg : Gl X x) (hdb : (x == ("__debug__" : PySem.Str)) = false := by decide) :
    RS X cls W (.Raise (some (.Call (.Name x p) [.Constant (.str m) j p2] [] pos)) none pos') (sRaise c) :=
  ⟨(ps_raise hc tk (pmk_own PySem.F.excBase_ValueError F.xC F.gC F.kC (raises_own F.bC F.tC) hg hdb)).imp fun D σ H t => t.ok fun φ h ρ x p => p φ none σ H (Ext.refl _ _) (Keep.refl _) x rfl, fun _ _ => Nat.le_refl _⟩
/-! ### try .. except -/
theorem growS_tryA {L : List Nat} {i : Nat} {tk : Nat → Bool} {b : Sm} {su : Nat → Sm} (gb : GrowS b) : GrowS (sTryA L i tk b su) := fun ρ h => by
  have g := gb ρ h
  unfold sTryA
  revert g
  cases b ρ h with
  | exc c p ρ1 h1 =>
    intro g
    dsimp only
    split
    · split
      · unfold onT
        split
        · split
          · rename_i z
            have q := (tame_of z.2).1
            unfold growsS at g ⊢
            dsimp only at g ⊢
            rw [List.length_take]
            omega
          · trivial
        · trivial
      · exact g
    · trivial
  | _ => exact fun g => g
theorem VR.toErr {K : PySem.W.Frag} {φ : Phi} {n : Nat} {H : Hp} (he : φ.e = none) (a : Addr × Option Addr) {w : PF.W} {v : V} (r : VR K φ n H w v) : VR K ⟨φ.f, some a, φ.c⟩ n H w v := VR.cut (φ := φ) (φ' := ⟨φ.f, some a, φ.c⟩) (fun _ _ => rfl) rfl r (r.bd he)
theorem VRs.toErr {K : PySem.W.Frag} {φ : Phi} {n : Nat} {H : Hp} (he : φ.e = none) (a : Addr × Option Addr) {w : List PF.W} {v : List V} (r : VRs K φ n H w v) : VRs K ⟨φ.f, some a, φ.c⟩ n H w v := VRs.cut (φ := φ) (φ' := ⟨φ.f, some a, φ.c⟩) (fun _ _ => rfl) rfl r (r.bd he)
abbrev Cl.in (cls : Cl) (a : Addr) (d : Option Addr) : Cl := ⟨cls.f, some (a, d)⟩
theorem tame_self (h : Hs) : tame h h = true := by
  unfold tame
  simp
theorem Cells.toErr {K : PySem.W.Frag} {cls : Cl} {φ : Phi} {h : Hs} {H : Hp} (he : φ.e = none) (a : Addr) (d : Option Addr) (C : Cells K cls φ h H) : Cells K (cls.in a d) ⟨φ.f, some (a, d), φ.c⟩ h H :=
by
  have := Cells.less (cls' := cls.in a d) (φ'' := ⟨φ.f, some (a, d), φ.c⟩) C C he rfl (fun _ _ => rfl) rfl rfl (tame_self h)
  rwa [List.take_length] at this
theorem rs_tryA (L : List Nat) (i : Nat) {tkB : Nat → Bool} {x n : PySem.Str} {c : Value} {body suite : List Stmt} {b₀ : Stmt} {np pos pos' : Pos} {b : Sm} {su : Nat → Sm} (hcl : cls.su = none)
    (hs : X.stack = X.env :: X.outer) (hf : X.env.frame = some X.env.locals) (hN : X.N.Nodup) (hi : X.N[i]? = some n) (hln : X.env.kindOf n = some .local) (hc : Names X x c) (tk : Takes X W)
    (hx : ∀ k, k ∈ L → PySem.W.exmOne X.K (.ref (cls k)) c = some (tkB k))
    (hb : ∀ (W : WX) (pn : List (Addr × Obj)) (xe : Value → Shared → Prop), Takes (X.tr pn xe) W → PassesOwn (model X.prog X.w) X.A X.env xe → RSs (X.tr pn xe) cls W body b) (gb : GrowS b)
    (hsu : ∀ (k : Nat) (a : Addr) (oe : Obj) (d : Option Addr) (pn : List (Addr × Obj)), k ∈ L → Zc (.ref (cls k)) d oe → (∃ vs, oe.data = .fields vs) → RSs (X.suite a ((a, oe) :: pn)) (cls.in a d) W0 (b₀ :: suite) (su k)) :
    RS X cls W (.Try body [.ExceptHandler (some (.Name x np)) (some n) (b₀ :: suite) pos'] [] [] pos) (sTryA L i tkB b su) := by
  refine ⟨(ps_try_as (Wout := W) (tb := fun W' => tS X.K cls W' b)
    (ts := fun a cv d D σ H => ∃ k φ h ρ, k ∈ L ∧ cv = .ref (cls k) ∧ At X.K (cls.in a d) φ h ρ σ H ∧ PostS X.K (cls.in a d) φ h.length H W0 D (su k ρ h))
    hs hf hN hi hln hc tk (fun W' pn xe tk' hp => (hb W' pn xe tk' hp).ps) (fun a oe cv d pn hz hv => ?_)).imp fun D σ H t => t.ok fun φ h ρ x p => ?_, growS_tryA gb⟩
  · -- the suite
    refine ⟨fun pins s σ H D I q => ?_⟩
    obtain ⟨k, φ, h, ρ, hk, rfl, x, q⟩ := q
    exact (hsu k a oe d pn hk hz hv).ps.run pins s σ H D I ⟨φ, h, ρ, x, q⟩
  · refine ⟨φ, h, ρ, x, ?_⟩
    have g := gb ρ h
    unfold sTryA at p
    revert p g
    cases b ρ h with
    | exc c1 p1 ρ1 h1 =>
      intro p g φ' d σ' H' e k x' r
      dsimp only at p
      split at p
      · rename_i hL
        refine ⟨tkB c1, hx c1 hL.1, fun ht a ha => ?_, fun ht => ?_⟩
        · rw [if_pos ht] at p
          have p' := PostS.later p e g k
          have he : φ'.e = none := x'.C.noe.trans hcl
          have S1 : Slots X.K ⟨φ'.f, some (a, d), φ'.c⟩ h1.length H' ρ1 σ' := ⟨x'.S.1, fun j w hw => by
            obtain ⟨v, hv, rv⟩ := x'.S.2 j w hw
            exact ⟨v, hv, rv.toErr he (a, d)⟩⟩
          have rE : VR X.K ⟨φ'.f, some (a, d), φ'.c⟩ h1.length H' (errOf p1) (.ref a) := by
            cases p1 with
            | none =>
              have r : d = none := r
              subst r
              exact .err rfl
            | some q =>
              obtain ⟨f, w⟩ := q
              obtain ⟨a', v, z1, z2, z3⟩ := r
              subst z1
              exact .errF rfl z2 (z3.toErr he (a, some a'))
          refine ⟨c1, ⟨φ'.f, some (a, d), φ'.c⟩, h1, ρ1.set i (some (errOf p1)), hL.1, rfl, ⟨x'.C.toErr he a d, S1.set rE⟩, ?_⟩
          · revert p'
            unfold onT
            cases su c1 (ρ1.set i (some (errOf p1))) h1 with
            | ret w2 h2 =>
              dsimp only
              split
              · rename_i hw
                intro p' φ2 v H2 e2 k2 C2 r2
                have C3 := Cells.less (cls' := cls) C2 x'.C he rfl (φ'' := ⟨φ2.f, none, φ2.c⟩) (fun _ _ => rfl) rfl hcl.symm hw.2
                have e3 : Ext φ' ⟨φ2.f, none, φ2.c⟩ h1.length := ⟨fun j hj => e2.ix j hj, he.symm, e2.cr⟩
                exact p' ⟨φ2.f, none, φ2.c⟩ v H2 e3 k2 C3 (VR.cut (φ := φ2) (φ' := ⟨φ2.f, none, φ2.c⟩) (fun _ _ => rfl) rfl r2 (Bd.pure hw.1))
              · exact fun p' => p'.elim
            | _ => exact fun p' => p'.elim
        · rw [if_neg (by rw [ht]; exact Bool.false_ne_true)] at p
          exact p φ' d σ' H' e k x' r
      · exact p.elim
    | nx _ _ => exact fun p g => p
    | bk _ _ => exact fun p g => p
    | ct _ _ => exact fun p g => p
    | ret _ _ => exact fun p g => p
    | stuck => exact fun p g => p
/-- .. except X: (no name) -/
theorem growS_tryO {L : List Nat} {tk : Nat → Bool} {b s : Sm} (gb : GrowS b) (gs : GrowS s) : GrowS (sTryO L tk b s) := fun ρ h => by
  have g := gb ρ h
  unfold sTryO
  revert g
  cases b ρ h with
  | exc c p ρ1 h1 =>
    intro g
    dsimp only
    split
    · split
      · have g2 := (gs ρ1 h1).le g
        revert g2
        cases s ρ1 h1 with
        | exc _ _ _ _ => exact fun _ => trivial
        | _ => exact fun g => g
      · exact g
    · trivial
  | _ => exact fun g => g
theorem rs_tryO (L : List Nat) {tkB : Nat → Bool} {x : PySem.Str} {c : Value} {body suite : List Stmt} {b₀ : Stmt} {np pos pos' : Pos} {b s : Sm}
    (hs : X.stack = X.env :: X.outer) (hf : X.env.frame = some X.env.locals) (hc : Names X x c) (tk : Takes X W)
    (hx : ∀ k, k ∈ L → PySem.W.exmOne X.K (.ref (cls k)) c = some (tkB k))
    (hb : ∀ (W : WX) (pn : List (Addr × Obj)) (xe : Value → Shared → Prop), Takes (X.tr pn xe) W → PassesOwn (model X.prog X.w) X.A X.env xe → RSs (X.tr pn xe) cls W body b) (gb : GrowS b)
    (hsu : ∀ (a : Addr) (oe : Obj) (d : Option Addr) (pn : List (Addr × Obj)), RSs (X.suite a ((a, oe) :: pn)) cls W0 (b₀ :: suite) s) (gs : GrowS s) :
    RS X cls W (.Try body [.ExceptHandler (some (.Name x np)) none (b₀ :: suite) pos'] [] [] pos) (sTryO L tkB b s) := by
  refine ⟨(ps_try_only (Wout := W) (tb := fun W' => tS X.K cls W' b) (ts := fun a cv d => tS X.K cls W0 s)
    hs hf hc tk (fun W' pn xe tk' hp => (hb W' pn xe tk' hp).ps) (fun a oe cv d pn hz hv => (hsu a oe d pn).ps)).imp fun D σ H t => t.ok fun φ h ρ x p => ?_, growS_tryO gb gs⟩
  refine ⟨φ, h, ρ, x, ?_⟩
  have g := gb ρ h
  unfold sTryO at p
  revert p g
  cases b ρ h with
  | exc c1 p1 ρ1 h1 =>
    intro p g φ' d σ' H' e k x' r
    dsimp only at p
    split at p
    · rename_i hL
      refine ⟨tkB c1, hx c1 hL, fun ht a ha => ?_, fun ht => ?_⟩
      · rw [if_pos ht] at p
        have p' := PostS.later p e g k
        refine ⟨φ', h1, ρ1, x', ?_⟩
        revert p'
        cases s ρ1 h1 with
        | exc _ _ _ _ => exact fun p' => p'.elim
        | _ => exact fun p' => p'
      · rw [if_neg (by rw [ht]; exact Bool.false_ne_true)] at p
        exact p φ' d σ' H' e k x' r
    · exact p.elim
  | nx _ _ => exact fun p g => p
  | bk _ _ => exact fun p g => p
  | ct _ _ => exact fun p g => p
  | ret _ _ => exact fun p g => p
  | stuck => exact fun p g => p
/-! ### isinstance of the caught error -/
theorem er_at {K : PySem.W.Frag} {a : Addr} {d : Option Addr} {φ : Phi} {h : Hs} {ρ : Env} {σ : L2.St} {H : Hp} {i : Nat} (x : At K (cls.in a d) φ h ρ σ H) {w : PF.W} (e : ρ[i]? = some (some w)) (hw : w = .err ∨ ∃ f u, w = .errF f u) : σ[i]? = some (some (.ref a)) ∧ (d = none ∨ ∃ (dd : Addr) (f : List Nat) (v : V) (u : PF.W), w = .errF f u ∧ d = some dd ∧ H dd = some (.xd [(sS f, v)]) ∧ VR K φ h.length H u v) := by
  obtain ⟨v, hv, r⟩ := x.S.2 i _ e
  rcases hw with rfl | ⟨f, u, rfl⟩
  · cases r with
    | err h =>
      rw [x.C.noe] at h
      cases h
      exact ⟨hv, .inl rfl⟩
  · cases r with
    | errF h z r =>
      rw [x.C.noe] at h
      cases h
      exact ⟨hv, .inr ⟨_, _, _, _, rfl, rfl, z, r⟩⟩
theorem gr_er (i : Nat) (b : Bool) : Grow (dEr i b) := fun ρ h => by
  unfold dEr
  split
  · exact Nat.le_refl _
  · exact Nat.le_refl _
  · trivial
theorem gr_fd (i : Nat) (f : List Nat) : Grow (dFd i f) := fun ρ h => by
  unfold dFd
  split
  · split
    · exact Nat.le_refl _
    · trivial
  · trivial
end
end PF
namespace PF
open PySem PySem.Spec PyProof.Rows L2
/-! ### a def at hand, as its callers want it -/
structure FnAt (P : Program) (w : World) (K : PySem.W.Frag) (mg : PySem.Str → Option Value) (base : Heap) (cls : Cl) (x : PySem.Str) (k : Nat) (fn : Fn) : Prop where
  ex : ∃ (f : Addr) (fd : FuncData) (ps : List PySem.Str), FnOk P w K mg base (L2.CX P w) k f fd ps (SpI K cls fn) ∧ mg x = some (.ref f) ∧ PySem.W.keepIn K (.ref f) = true ∧ Binds K fd ps []
  g : GrC fn
/-- a def as the top has left it -/
structure RawFn (K : PySem.W.Frag) (mg : PySem.Str → Option Value) (x : PySem.Str) (st : Stmt) (ps : List PySem.Str) (f : Addr) (fd : FuncData) : Prop where
  F : Fun K x x st f fd
  m : mg x = some (.ref f)
  b : Binds K fd ps []
section
variable {P : Program} {w : World} {K : PySem.W.Frag} {mg : PySem.Str → Option Value} {base : Heap} {cls : Cl}
theorem FnAt.mkE {x : PySem.Str} {st : Stmt} {N ps : List PySem.Str} {k : Nat} {b : Sm} {en : Hs → Res PF.W → Res PF.W} {f : Addr} {fd : FuncData} (R : RawFn K mg x st ps f fd) (S : FnScope N ps (defScope st)) (ee : EndOK K cls en) (hle : ps.length ≤ N.length) (ge : GrC fun ws h => en h (mkF ps.length N.length b ws h))
    (hbody : ∀ (cdv : Value) (A : Around) (outer : List PySem.Env) (s : Shared) (H : Hp) (E : XK), Room k (A.deeper (envOfC x (defScope st) s.heap.objs.size f cdv)) →
      Takes (cxOf (L2.CX P w) P w K mg base N x (defScope st) f cdv A outer s H E) (fun cls d _ H => E cls d H) →
      PassesOwn (model P w) (cxOf (L2.CX P w) P w K mg base N x (defScope st) f cdv A outer s H E).A (cxOf (L2.CX P w) P w K mg base N x (defScope st) f cdv A outer s H E).env (cxOf (L2.CX P w) P w K mg base N x (defScope st) f cdv A outer s H E).xe →
      RSs (cxOf (L2.CX P w) P w K mg base N x (defScope st) f cdv A outer s H E) cls (fun cls d _ H => E cls d H) (defBody st) b) : FnAt P w K mg base cls x (k + 1) (fun ws h => en h (mkF ps.length N.length b ws h)) :=
  ⟨⟨f, fd, ps, fn_ok R.F S ee hle fun cdv A outer s H E hr => hbody cdv A outer s H E hr (takes_of rfl rfl rfl rfl) (passes_of rfl), R.m, R.F.kp, R.b⟩, ge⟩
theorem FnAt.mono {x : PySem.Str} {j k : Nat} {fn : Fn} (F : FnAt P w K mg base cls x j fn) (h : j ≤ k) : FnAt P w K mg base cls x k fn :=
  let ⟨⟨f, fd, ps, h1, h2, h3, h4⟩, g⟩ := F
  ⟨⟨f, fd, ps, h1.mono h, h2, h3, h4⟩, g⟩
end
section
variable {X : Cx} {cls : Cl} {W : WX}
theorem re_fn {k : Nat} {fn : Fn} {x : PySem.Str} {p pos : Pos} {e : Expr} {es : List Expr} {as : As} (F : FnAt X.prog X.w X.K X.mg X.base cls x k fn) (tk : Takes X W) (hr : Room k X.A) (hg : Gl X x) (ha : RA X cls W (e :: es) as) (hdb : (x == ("__debug__" : PySem.Str)) = false := by decide)
    (he : starEach (e :: es) X.env = (false, eval e X.env) :: starEach es X.env := by rfl) (hpl : (backTo pos (starEach es X.env)).any (·.1) = false := by rfl) : RE X cls W (.Call (.Name x p) (e :: es) [] pos) (dCall fn as) := by
  obtain ⟨⟨f, fd, ps, h1, h2, h3, h4⟩, g⟩ := F
  exact re_call h1 g tk hr hg h2 h3 h4 ha hdb he hpl
theorem isN_imp {d : PF.D} (gd : Grow d) {σ : L2.St} {H : Hp} {Q : VK} (t : tG X.K cls (rW X.K) W (dUn oIsN d) σ H Q) : tIsN (tG X.K cls (rW X.K) W d) σ H Q :=
  t.ok fun φ h ρ x p => x.first (gd ρ h) p fun v H1 φ1 w1 h1 g1 x1 p1 => by
    have q := rO_ok g1.C p1 (.bl _)
    rw [vr_non g1.r] at q
    exact q
theorem notN_imp {d : PF.D} (gd : Grow d) {σ : L2.St} {H : Hp} {Q : VK} (t : tG X.K cls (rW X.K) W (dUn oNotN d) σ H Q) : tNotN (tG X.K cls (rW X.K) W d) σ H Q :=
  t.ok fun φ h ρ x p => x.first (gd ρ h) p fun v H1 φ1 w1 h1 g1 x1 p1 => by
    have q := rO_ok g1.C p1 (.bl _)
    rw [vr_non g1.r] at q
    exact q
theorem rt_isN {a : Expr} {j : Tok} {p pos : Pos} {d : PF.D} (he : RE X cls W a d) : RT X cls W (.Compare a [.Is] [.Constant .none j p] pos) (tVal (dUn oIsN d)) :=
  ⟨(pt_cmp (pc_isN he.pe) rfl).imp fun σ H Q t => isN_imp he.g (t.val (grow_un g_isN he.g)), grow_val (grow_un g_isN he.g)⟩
theorem rt_notN {a : Expr} {j : Tok} {p pos : Pos} {d : PF.D} (he : RE X cls W a d) : RT X cls W (.Compare a [.IsNot] [.Constant .none j p] pos) (tVal (dUn oNotN d)) :=
  ⟨(pt_cmp (pc_notN he.pe) rfl).imp fun σ H Q t => notN_imp he.g (t.val (grow_un g_notN he.g)), grow_val (grow_un g_notN he.g)⟩
theorem rt_chain {op op' : CmpOp} {o o' : PF.W → PF.W → Hs → Res PF.W} {a b c : Expr} {da db dc : PF.D} {pos : Pos} (ho : OpR X (compareOp op) (rO X.K cls o)) (go : GrO o) (ho' : OpR X (compareOp op') (rO X.K cls o')) (go' : GrO o') (ha : RE X cls W a da) (hb : RE X cls W b db) (hc : RE X cls W c dc)
    (hm : lastMarks [op, op'] [b, c] = false := by with_unfolding_all rfl) : RT X cls W (.Compare a [op, op'] [b, c] pos) (tVal (dChain o o' da db dc)) :=
  have hg := grow_chain go go' ha.g hb.g hc.g
  ⟨(pt_chain ho ho' ha.pe hb.pe hc.pe hm).imp fun σ H Q t => chain_imp go go' ha.g hb.g hc.g (t.val hg), grow_val hg⟩
/-- x op= e, whole numbers -/
theorem rs_augI (i : Nat) {op : Operator} {f : Int → Int → Int} {o : PF.W → PF.W → Hs → Res PF.W} {x : PySem.Str} {e : Expr} {pos pos' : Pos} {d : PF.D} (hN : X.N.Nodup) (hi : X.N[i]? = some x) (hx : Loc X.env.scope x) (he : RE X cls W e d) (hI : PIp X op (ipI f)) (go : GrO o)
    (ho : ∀ (w u : PF.W) (h : Hs), o w u h = .stuck ∨ ∃ i j, w = .int i ∧ u = .int j ∧ o w u h = .ok (.int (f i j)) h)
    (hf : X.fn x = true ∨ X.env.scope.names.lookup x = some .local := by first | exact .inl rfl | exact .inr rfl | assumption) : RS X cls W (.AugAssign (.Name x pos') op e pos) (sAug i o d) := by
  refine ⟨(ps_aug hN hi hx he.pe hI hf).imp fun D σ H t => t.ok fun φ h ρ x p => ?_, fun ρ h => ?_⟩
  · unfold sAug at p
    split at p
    · rename_i w0 e0
      obtain ⟨v0, hv0, r0⟩ := x.S.2 i w0 e0
      refine ⟨v0, hv0, φ, h, ρ, x, ?_⟩
      have g := he.g ρ h
      revert p g
      cases d ρ h with
      | exc c y h1 => exact fun p g φ' d H' e k C r => p φ' d σ H' e k ⟨C, x.S.mono e g k⟩ r
      | stuck => exact fun p _ => p
      | ok w1 h1 =>
        intro p g φ' v H' e k C r
        rcases ho w0 w1 h1 with z | ⟨a, b, rfl, rfl, z⟩
        · rw [Res.bind_ok, z] at p
          exact p.elim
        · rw [Res.bind_ok, z] at p
          cases r0
          cases r
          exact ⟨a, b, rfl, rfl, p φ' _ H' e k ⟨C, (x.S.mono e g k).set (.int _)⟩⟩
    · exact p.elim
  · unfold sAug
    split
    · exact growsS.onR ((he.g ρ h).bind fun y h1 _ l => (go _ y h1).le l) fun w h1 _ l => l
    · trivial
theorem g_addI : GrO oAddI := fun w u h => by
  unfold oAddI
  split <;> first | exact Nat.le_refl _ | trivial
theorem addI_or (w u : PF.W) (h : Hs) : oAddI w u h = .stuck ∨ ∃ i j, w = .int i ∧ u = .int j ∧ oAddI w u h = .ok (.int (i + j)) h := by
  unfold oAddI
  split
  · exact .inr ⟨_, _, rfl, rfl, rfl⟩
  · exact .inl rfl
theorem subI_or (w u : PF.W) (h : Hs) : oSub w u h = .stuck ∨ ∃ i j, w = .int i ∧ u = .int j ∧ oSub w u h = .ok (.int (i - j)) h := by
  unfold oSub
  split
  · exact .inr ⟨_, _, rfl, rfl, rfl⟩
  · exact .inl rfl
end
end PF
namespace PF
open PySem PySem.Spec PyProof.Rows L2
/-! ### the store grows -/
section
variable {a b c d : PF.D} {t u : T} {as : As} {s r : Sm} {it : PF.I}
theorem gr_v (i : Nat) : Grow (dV i) := fun ρ h => by
  unfold dV
  split
  · exact Nat.le_refl _
  · trivial
theorem gr_and (ga : Grow a) (gb : Grow b) : Grow (dAnd a b) := fun ρ h => (ga ρ h).bind fun x h1 _ l1 => asB_grows fun c => by
  split
  · exact (gb ρ h1).le l1
  · exact l1
theorem gr_or (ga : Grow a) (gb : Grow b) : Grow (dOr a b) := fun ρ h => (ga ρ h).bind fun x h1 _ l1 => asB_grows fun c => by
  split
  · exact l1
  · exact (gb ρ h1).le l1
theorem gr_not (ga : Grow a) : Grow (dNot a) := fun ρ h => (ga ρ h).bind fun x h1 _ l1 => asB_grows fun c => l1
theorem gr_tand (ga : Grow t) (gb : Grow u) : Grow (PF.tAnd t u) := fun ρ h => (ga ρ h).bind fun x h1 _ l1 => by
  split
  · exact (gb ρ h1).le l1
  · exact l1
theorem gr_tor (ga : Grow t) (gb : Grow u) : Grow (PF.tOr t u) := fun ρ h => (ga ρ h).bind fun x h1 _ l1 => by
  split
  · exact l1
  · exact (gb ρ h1).le l1
theorem gr_tnot (ga : Grow t) : Grow (PF.tNot t) := fun ρ h => (ga ρ h).bind fun x h1 _ l1 => l1
theorem gr_yes : Grow PF.tYes := fun _ _ => Nat.le_refl _
theorem gr_if (gt : Grow t) (ga : Grow a) (gb : Grow b) : Grow (dIf t a b) := fun ρ h => (gt ρ h).bind fun x h1 _ l1 => by
  split
  · exact (ga ρ h1).le l1
  · exact (gb ρ h1).le l1
theorem gr_nil : Grow aNil := fun _ _ => Nat.le_refl _
theorem gr_cons (ga : Grow a) (gs : Grow as) : Grow (aCons a as) := fun ρ h => (ga ρ h).bind fun x h1 _ l1 => ((gs ρ h1).le l1).bind fun y h2 _ l2 => l2
theorem gr_tup (gs : Grow as) : Grow (dTup as) := fun ρ h => (gs ρ h).bind fun x h1 _ l1 => by
  split
  · exact l1
  · trivial
theorem gr_lst (gs : Grow as) : Grow (dLst as) := fun ρ h => (gs ρ h).bind fun x h1 _ l1 => by
  split
  · exact (newL_grows _ _).le l1
  · trivial
theorem gr_pno : Grow pNo := fun _ _ => Nat.le_refl _
theorem gr_pat (ga : Grow a) : Grow (pAt a) := fun ρ h => (ga ρ h).bind fun w h1 _ l => by split <;> first | exact l | trivial
theorem gr_sl {l r : PF.P} (ga : Grow a) (gl : Grow l) (gu : Grow r) : Grow (dSl a l r) := fun ρ h => (ga ρ h).bind fun w h1 _ l1 => ((gl ρ h1).le l1).bind fun x h2 _ l2 => ((gu ρ h2).le l2).bind fun y h3 _ l3 => (g_sl w x y h3).le l3
theorem gi_lst (ga : Grow a) : Grow (iLst a) := grow_lstOf ga fun _ _ _ => Nat.le_refl _
theorem gi_enum (ga : Grow a) : Grow (PF.iEnum a) := grow_lstOf ga fun _ _ _ => Nat.le_refl _
theorem gi_rev (ga : Grow a) : Grow (PF.iRev a) := grow_lstOf ga fun _ _ _ => Nat.le_refl _
theorem gi_tup (ga : Grow a) : Grow (PF.iTup a) := fun ρ h => (ga ρ h).bind fun w h1 _ l => by split <;> first | exact l | trivial
theorem gi_str (ga : Grow a) : Grow (PF.iStr a) := fun ρ h => (ga ρ h).bind fun w h1 _ l => by split <;> first | exact l | trivial
theorem gi_rng1 (ga : Grow a) : Grow (PF.iRng1 a) := fun ρ h => (ga ρ h).bind fun w h1 _ l => by
  split
  · split
    · exact l
    · trivial
  · trivial
theorem gi_rng2 (ga : Grow a) (gb : Grow b) : Grow (PF.iRng2 a b) := fun ρ h => (ga ρ h).bind fun w h1 _ l => ((gb ρ h1).le l).bind fun w h1 _ l => by
  split
  · split
    · exact l
    · trivial
  · trivial
theorem gi_zip (ga : Grow a) (gb : Grow b) : Grow (PF.iZip a b) := fun ρ h => (ga ρ h).bind fun w h1 _ l => ((gb ρ h1).le l).bind fun w h1 _ l => by
  split
  · exact l
  · trivial
/-! statements -/
theorem gs_nx : GrowS sNx := fun _ _ => Nat.le_refl _
theorem gs_brk : GrowS sBrk := fun _ _ => Nat.le_refl _
theorem gs_cnt : GrowS sCnt := fun _ _ => Nat.le_refl _
theorem gs_retN : GrowS sRetN := fun _ _ => Nat.le_refl _
theorem gs_raise (c : Nat) : GrowS (sRaise c) := fun _ _ => Nat.le_refl _
theorem gs_seq (gs : GrowS s) (gr : GrowS r) : GrowS (sSeq s r) := fun ρ h => by
  have g1 := gs ρ h
  unfold sSeq
  revert g1
  cases s ρ h with
  | nx ρ1 h1 => exact fun g1 => (gr ρ1 h1).le g1
  | _ => exact fun g => g
theorem gs_exp (ga : Grow a) : GrowS (sExp a) := fun ρ h => growsS.onR (ga ρ h) fun w h1 _ l => l
theorem gs_ret (ga : Grow a) : GrowS (sRet a) := fun ρ h => growsS.onR (ga ρ h) fun w h1 _ l => l
theorem gs_asg {g : Tg} (ga : Grow a) : GrowS (sAsg a g) := grow_asg ga
theorem gs_aug {i : Nat} {o : PF.W → PF.W → Hs → Res PF.W} (go : GrO o) (ga : Grow a) : GrowS (sAug i o a) := fun ρ h => by
  unfold sAug
  split
  · exact growsS.onR ((ga ρ h).bind fun y h1 _ l => (go _ y h1).le l) fun w h1 _ l => l
  · trivial
theorem gs_if (gt : Grow t) (gs : GrowS s) (gr : GrowS r) : GrowS (sIf t s r) := fun ρ h => growsS.onR (gt ρ h) fun c h1 _ l => by
  split
  · exact (gs ρ h1).le l
  · exact (gr ρ h1).le l
theorem gs_while (gt : Grow t) (gs : GrowS s) : GrowS (sWhile t s) := grow_while gt gs _
theorem gs_for {g : Tg} (gi : Grow it) (gs : GrowS s) : GrowS (sFor it g s) := fun ρ h => growsS.onR (gi ρ h) fun J h1 _ l => (grow_forL gs _ ρ h1).le l
end
/-! ### built-in names -/
theorem boot_abs : bootBuiltins "abs" = some (.builtin "abs") := by decide +kernel
theorem boot_len : bootBuiltins "len" = some (.builtin "len") := by decide +kernel
theorem boot_divmod : bootBuiltins "divmod" = some (.builtin "divmod") := by decide +kernel
theorem boot_max : bootBuiltins "max" = some (.builtin "max") := by decide +kernel
theorem boot_min : bootBuiltins "min" = some (.builtin "min") := by decide +kernel
theorem boot_sum : bootBuiltins "sum" = some (.builtin "sum") := by decide +kernel
theorem boot_all : bootBuiltins "all" = some (.builtin "all") := by decide +kernel
theorem boot_any : bootBuiltins "any" = some (.builtin "any") := by decide +kernel
theorem boot_sorted : bootBuiltins "sorted" = some (.builtin "sorted") := by decide +kernel
theorem boot_isinstance : bootBuiltins "isinstance" = some (.builtin "isinstance") := by decide +kernel
theorem boot_int : bootBuiltins "int" = some (.type "int") := by decide +kernel
theorem boot_bool : bootBuiltins "bool" = some (.type "bool") := by decide +kernel
theorem boot_str : bootBuiltins "str" = some (.type "str") := by decide +kernel
theorem boot_tuple : bootBuiltins "tuple" = some (.type "tuple") := by decide +kernel
theorem boot_list : bootBuiltins "list" = some (.type "list") := by decide +kernel
theorem boot_set : bootBuiltins "set" = some (.type "set") := by decide +kernel
theorem boot_ValueError : bootBuiltins "ValueError" = some (.type "ValueError") := by decide +kernel
end PF
namespace PF
open PySem PySem.Spec PyProof.Rows L2
section
variable {X : Cx} {cls : Cl} {W : WX}
/-! ### methods -/
theorem kd_lst {K : PySem.W.Frag} {φ : Phi} {h : Hs} {H : Hp} {w : PF.W} {v : V} (C : Cells K cls φ h H) (r : VR K φ h.length H w v) (e : kdOf w h = some .lst) : tyV K "list" v H := by
  cases r with
  | fl q _ => exact .inl ⟨rfl, _, q.l⟩
  | @ref i hi =>
    unfold kdOf at e
    dsimp only at e
    split at e
    · rename_i ws ei
      obtain ⟨vs, h1, _⟩ := C.cell _ _ ei
      exact .inl ⟨rfl, vs, .of h1⟩
    · cases e
    · cases e
    · cases e
  | _ => cases e
theorem kd_str {K : PySem.W.Frag} {φ : Phi} {n : Nat} {h : Hs} {H : Hp} {w : PF.W} {v : V} (r : VR K φ n H w v) (e : kdOf w h = some .str) : tyV K "str" v H := by
  cases r with
  | str s _ => exact rfl
  | @ref i hi =>
    unfold kdOf at e
    dsimp only at e
    split at e <;> cases e
  | _ => cases e
theorem kd_dct {K : PySem.W.Frag} {φ : Phi} {h : Hs} {H : Hp} {w : PF.W} {v : V} (C : Cells K cls φ h H) (r : VR K φ h.length H w v) (e : kdOf w h = some .dct) : tyV K "dict" v H := by
  cases r with
  | @ref i hi =>
    unfold kdOf at e
    dsimp only at e
    split at e
    · cases e
    · rename_i ws ei
      obtain ⟨vs, h1, _⟩ := C.cell _ _ ei
      exact .inr (.inr (.inl ⟨rfl, .inl ⟨vs, h1⟩⟩))
    · cases e
    · cases e
  | _ => cases e
def rM (K : PySem.W.Frag) (cls : Cl) (m : PF.W → List PF.W → Hs → Res PF.W) : V → List V → Hp → VK → Prop := fun x xs H Q => ∃ φ h w ws E, Cells K cls φ h H ∧ VR K φ h.length H w x ∧ VRs K φ h.length H ws xs ∧ Post K cls (rW K) φ h.length H E Q (m w ws h)
def GrM (m : PF.W → List PF.W → Hs → Res PF.W) : Prop := ∀ w ws h, grows h.length (m w ws h)
theorem gr_met {k : Kd} {m : PF.W → List PF.W → Hs → Res PF.W} {a : PF.D} {as : As} (gm : GrM m) (ga : Grow a) (gs : Grow as) : Grow (dMeth k m a as) := fun ρ h => (ga ρ h).bind fun x h1 _ l1 => by
  split
  · exact ((gs ρ h1).le l1).bind fun xs h2 _ l2 => (gm x xs h2).le l2
  · trivial
def Kd.nm : Kd → String
  | .lst => "list"
  | .str => "str"
  | .dct => "dict"
theorem kd_ty {K : PySem.W.Frag} {φ : Phi} {h : Hs} {H : Hp} {w : PF.W} {v : V} {k : Kd} (C : Cells K cls φ h H) (r : VR K φ h.length H w v) (e : kdOf w h = some k) : tyV K k.nm v H := by
  cases k with
  | lst => exact kd_lst C r e
  | str => exact kd_str r e
  | dct => exact kd_dct C r e
theorem met_imp {k : Kd} {m : PF.W → List PF.W → Hs → Res PF.W} {a : PF.D} {as : As} (ga : Grow a) (gs : Grow as) {σ : L2.St} {H : Hp} {Q : VK} (t : tG X.K cls (rW X.K) W (dMeth k m a as) σ H Q) :
    tG X.K cls (rW X.K) W a σ H fun x H1 => tyV X.K k.nm x H1 ∧ tG X.K cls (rWs X.K) W as σ H1 fun xs H2 => rM X.K cls m x xs H2 Q :=
  t.ok fun φ h ρ x p => x.first (ga ρ h) p fun v H1 φ1 w1 h1 g1 x1 p1 => by
    split at p1
    · rename_i e
      exact ⟨kd_ty g1.C g1.r e, x1.first (gs ρ h1) p1 fun vs H2 φ2 ws h2 g2 x2 p2 => ⟨φ2, h2, w1, ws, _, g2.C, VR.mono g2.e g2.l g2.k g1.r, g2.r, p2⟩⟩
    · exact p1.elim
theorem re_met {k : Kd} {m : PF.W → List PF.W → Hs → Res PF.W} {o e : Expr} {es : List Expr} {name : PySem.Str} {id : String} {apos cpos : Pos} {a : PF.D} {as : As} (pa : PlainAttrs k.nm) (slot : Slot k.nm name id) (hty : typeOf (.builtin id) = pure (.type "method_descriptor")) (hm : MtR X id (rM X.K cls m)) (gm : GrM m)
    (ho : RE X cls W o a) (ha : RA X cls W (e :: es) as) (hbase : attributeBase o name X.env (eval o X.env) = eval o X.env := by rfl)
    (hfew : ((backTo cpos (starEach (e :: es) X.env)).all (fun x => !x.1) && (backToKw cpos (keywordEach [] X.env)).all (fun x => x.1.isSome)
      && decide ((e :: es).length + ([] : List Keyword).length + (if ([] : List Keyword).isEmpty then 0 else 1) < 30)) = true := by rfl)
    (hline : (apos.endLine == cpos.line) = true := by rfl) (hs : starEach (e :: es) X.env = (false, eval e X.env) :: starEach es X.env := by rfl) (hplain : (backTo cpos (starEach es X.env)).any (·.1) = false := by rfl) : RE X cls W (.Call (.Attribute o name apos) (e :: es) [] cpos) (dMeth k m a as) :=
  ⟨(pe_bm pa slot hty hm ho.pe ha.pa hbase hfew hline hs hplain).imp fun σ H Q t => met_imp ho.g ha.g t, gr_met gm ho.g ha.g⟩
theorem re_met0 {k : Kd} {m : PF.W → List PF.W → Hs → Res PF.W} {o : Expr} {name : PySem.Str} {id : String} {apos cpos : Pos} {a : PF.D} (pa : PlainAttrs k.nm) (slot : Slot k.nm name id) (hty : typeOf (.builtin id) = pure (.type "method_descriptor")) (hm : MtR X id (rM X.K cls m)) (gm : GrM m)
    (ho : RE X cls W o a) (hbase : attributeBase o name X.env (eval o X.env) = eval o X.env := by rfl) (hline : (apos.endLine == cpos.line) = true := by rfl) : RE X cls W (.Call (.Attribute o name apos) [] [] cpos) (dMeth k m a aNil) :=
  ⟨(pe_bm0 pa slot hty hm ho.pe hbase hline).imp fun σ H Q t => (met_imp ho.g gr_nil t).mono fun x H1 ⟨h1, h2⟩ => ⟨h1, by
    obtain ⟨φ, h, ρ, x, p⟩ := h2
    exact p φ [] H1 (Ext.refl _ _) (Keep.refl _) x.C .nil⟩, gr_met gm ho.g gr_nil⟩
/-- a list changed: what is wanted behind -/
theorem post_set {K : PySem.W.Frag} {φ : Phi} {h : Hs} {H : Hp} {E : XK} {Q : VK} {i : Nat} {ws ws' : List PF.W} {vs vs' : List V} {w : PF.W} {v : V} (C : Cells K cls φ h H) (ei : h[i]? = some (.lst ws)) (hv : H (φ i) = some (.lst vs)) (r : VRs K φ h.length H ws' vs') (rw' : VR K φ h.length H w v)
    (p : Post K cls (rW K) φ h.length H E Q (.ok w (h.set i (.lst ws')))) : Q v (upd H (φ i) (.lst vs')) := by
  have hi : i < h.length := (List.getElem?_eq_some_iff.mp ei).1
  have kk : Keep H (upd H (φ i) (.lst vs')) := keep_set hv fun z => z
  refine p φ v _ (Ext.refl _ _) kk (C.chg hi ⟨vs', upd_same, r.mono (Ext.refl _ _) (Nat.le_refl _) kk⟩) ?_
  have : VR K φ h.length (upd H (φ i) (.lst vs')) w v := rw'.mono (Ext.refl _ _) (Nat.le_refl _) kk
  show VR K φ (h.set i (.lst ws')).length _ w v
  rw [List.length_set]
  exact this
theorem m_append : MtR X "list.append" (rM X.K cls mAppend) := by
  rintro pins s σ H x xs v us Q I rx rs ⟨φ, h, w, ws, E, C, r, t, p⟩
  unfold mAppend at p
  split at p
  · split at p
    · rename_i ws' ei
      split at p
      · rename_i hl
        cases r with
        | ref hi =>
          cases t with
          | cons t1 tt =>
            cases tt
            obtain ⟨vs, hv1, hv2⟩ := C.cell _ _ ei
            exact mt_append pins s σ H _ _ v us Q I rx rs ⟨_, vs, _, rfl, rfl, hv1, by rw [← hv2.length, ← bigL_eq]; exact hl, post_set C ei hv1 (hv2.snoc t1) .non p⟩
      · exact p.elim
    · exact p.elim
  · exact p.elim
theorem gm_append : GrM mAppend := fun w ws h => by
  unfold mAppend
  split
  · split
    · split
      · show h.length ≤ (h.set _ _).length
        rw [List.length_set]
        exact Nat.le_refl _
      · trivial
    · trivial
  · trivial
theorem m_clear : MtR X "list.clear" (rM X.K cls mClear) := by
  rintro pins s σ H x xs v us Q I rx rs ⟨φ, h, w, ws, E, C, r, t, p⟩
  unfold mClear at p
  split at p
  · split at p
    · rename_i ws' ei
      cases r with
      | ref hi =>
        cases t
        obtain ⟨vs, hv1, hv2⟩ := C.cell _ _ ei
        exact mt_clear pins s σ H _ _ v us Q I rx rs ⟨_, vs, rfl, rfl, hv1, post_set C ei hv1 .nil .non p⟩
    · exact p.elim
  · exact p.elim
theorem gm_clear : GrM mClear := fun w ws h => by
  unfold mClear
  split
  · split
    · show h.length ≤ (h.set _ _).length
      rw [List.length_set]
      exact Nat.le_refl _
    · trivial
  · trivial
theorem m_pop : MtR X "list.pop" (rM X.K cls mPop) := by
  rintro pins s σ H x xs v us Q I rx rs ⟨φ, h, w, ws, E, C, r, t, p⟩
  unfold mPop at p
  split at p
  · split at p
    · rename_i ws' ei
      split at p
      · rename_i y ey
        cases r with
        | ref hi =>
          cases t
          obtain ⟨vs, hv1, hv2⟩ := C.cell _ _ ei
          obtain ⟨u, hu, ru⟩ := hv2.get ey
          rw [hv2.length] at hu
          exact mt_pop pins s σ H _ _ v us Q I rx rs ⟨_, vs, u, rfl, rfl, hv1, hu, post_set C ei hv1 hv2.dropLast ru p⟩
      · exact p.elim
    · exact p.elim
  · exact p.elim
theorem gm_pop : GrM mPop := fun w ws h => by
  unfold mPop
  split
  · split
    · split
      · show h.length ≤ (h.set _ _).length
        rw [List.length_set]
        exact Nat.le_refl _
      · trivial
    · trivial
  · trivial
theorem m_extend : MtR X "list.extend" (rM X.K cls mExtend) := by
  rintro pins s σ H x xs v us Q I rx rs ⟨φ, h, w, ws, E, C, r, t, p⟩
  unfold mExtend at p
  split at p
  · split at p
    · rename_i wa ei
      split at p
      · rename_i hl
        cases r with
        | ref hi =>
          cases t with
          | cons t1 tt =>
            cases tt
            cases t1 with
            | fl qf tf =>
              obtain ⟨vs, hv1, hv2⟩ := C.cell _ _ ei
              cases rx
              obtain ⟨u1, rfl, ru⟩ := rs.one
              cases ru
              obtain ⟨_, its, n, r, hlen, e⟩ := I.lstM hv1
              obtain ⟨its2, r2, e2, _⟩ := I.list qf.l
              obtain ⟨n2, sl2, e2⟩ := plain_obj e2
              have hl2 := r2.length
              have g1 := hv2.length
              have g2 := tf.length
              have hb : its.toArray.size + its2.toArray.size ≤ sizeLine := by rw [List.size_toArray, List.size_toArray, ← bigL_eq]; omega
              have hlong : ¬ (!its.toArray.isEmpty && Builtin.List.listTooLong (its.toArray.size + its2.toArray.size)) = true := by
                rw [notLongL hb, Bool.and_false]
                exact Bool.false_ne_true
              refine call_meets F.slot_list_extend ⟨_, e, rfl⟩ F.entry_list_extend (F.args_list_extend_2 _ _) (meets_extW _ _ its.toArray its2.toArray n n2 sl2 hb hlong (by omega)) ⟨e, e2, ?_⟩
              refine ⟨.non, _, I.lset (its' := its ++ its2) hv1 e (by simp) (r.append r2) ?_, rfl, post_set C ei hv1 (hv2.append tf) .non p⟩
              rw [List.length_append]
              rw [List.size_toArray, List.size_toArray] at hb
              omega
      · exact p.elim
    · exact p.elim
  · split at p
    · rename_i wa wb ei ej
      split at p
      · rename_i hl
        cases r with
        | ref hi =>
          cases t with
          | cons t1 tt =>
            cases tt
            cases t1 with
            | ref hj =>
              obtain ⟨vs, hv1, hv2⟩ := C.cell _ _ ei
              obtain ⟨us', hu1, hu2⟩ := C.cell _ _ ej
              exact mt_extend pins s σ H _ _ v us Q I rx rs ⟨_, _, vs, us', rfl, rfl, hv1, hu1, by rw [← hv2.length, ← hu2.length, ← bigL_eq]; exact hl, post_set C ei hv1 (hv2.append hu2) .non p⟩
      · exact p.elim
    · exact p.elim
  · exact p.elim
theorem gm_extend : GrM mExtend := fun w ws h => by
  unfold mExtend
  split
  · split
    · split
      · show h.length ≤ (h.set _ _).length
        rw [List.length_set]
        exact Nat.le_refl _
      · trivial
    · trivial
  · split
    · split
      · show h.length ≤ (h.set _ _).length
        rw [List.length_set]
        exact Nat.le_refl _
      · trivial
    · trivial
  · trivial
/-! ### o[i] = e -/
theorem KR.mapput {K : PySem.W.Frag} {φ : Phi} {n : Nat} {H : Hp} {k : Key} {w : PF.W} {v : V} (ok : okK k) (q : VR K φ n H w v) : ∀ {kvs : List (Key × PF.W)} {ks : List (L2.Key × V)}, KR K φ n H kvs ks → KR K φ n H (kvs.map fun p => if p.1 = k then (p.1, w) else p) (ks.map fun p => if p.1 = keyV k then (p.1, v) else p)
  | [], _, .nil => .nil
  | p0 :: kvs, _, .cons (b := q0) r0 t => by
    rw [List.map_cons, List.map_cons]
    refine .cons ?_ (KR.mapput ok q t)
    by_cases z : p0.1 = k
    · rw [if_pos z, if_pos (by rw [r0.1.1, z])]
      exact ⟨r0.1, q⟩
    · rw [if_neg z, if_neg (fun y => z (keyV_inj (r0.1.1.symm.trans y)))]
      exact r0
theorem KR.snocput {K : PySem.W.Frag} {φ : Phi} {n : Nat} {H : Hp} {k : Key} {w : PF.W} {v : V} (ok : okK k) (q : VR K φ n H w v) : ∀ {kvs : List (Key × PF.W)} {ks : List (L2.Key × V)}, KR K φ n H kvs ks → KR K φ n H (kvs ++ [(k, w)]) (ks ++ [(keyV k, v)])
  | [], _, .nil => .cons ⟨⟨rfl, ok⟩, q⟩ .nil
  | _ :: _, _, .cons r0 t => .cons r0 (KR.snocput ok q t)
theorem KR.anyk {K : PySem.W.Frag} {φ : Phi} {n : Nat} {H : Hp} (k : Key) : ∀ {kvs : List (Key × PF.W)} {ks : List (L2.Key × V)}, KR K φ n H kvs ks → (kvs.any fun p => decide (p.1 = k)) = (ks.any fun p => decide (p.1 = keyV k))
  | [], _, .nil => rfl
  | p0 :: kvs, _, .cons (b := q0) r0 t => by
    rw [List.any_cons, List.any_cons, KR.anyk k t]
    congr 1
    rw [r0.1.1]
    exact decide_eq_decide.mpr ⟨fun z => by rw [z], keyV_inj⟩
theorem KR.put {K : PySem.W.Frag} {φ : Phi} {n : Nat} {H : Hp} {kvs : List (Key × PF.W)} {ks : List (L2.Key × V)} {k : Key} {w : PF.W} {v : V} (r : KR K φ n H kvs ks) (ok : okK k) (q : VR K φ n H w v) : KR K φ n H (PF.putK kvs k w) (L2.putK ks (keyV k) v) := by
  unfold PF.putK L2.putK
  rw [r.anyk k]
  split
  · exact r.mapput ok q
  · exact r.snocput ok q
theorem set_s (hu : X.A.units + 64 < cLine) : PSet X (fun o i v H R => ∃ φ h w u y, Cells X.K cls φ h H ∧ VR X.K φ h.length H w o ∧ VR X.K φ h.length H u i ∧ VR X.K φ h.length H y v ∧ ∃ h', stL w u y h = some h' ∧ ∀ H', Keep H H' → Cells X.K cls φ h' H' → R H') := by
  rintro pins s σ H o i v ov iv u Q I ro ri rv ⟨φ, h, w, z, y, C, r1, r2, r3, h', e, q⟩
  unfold stL at e
  split at e
  · split at e
    · rename_i ws ei
      split at e
      · rename_i kk0
        cases hj : ixW ws.length kk0 with
        | none => rw [hj] at e; cases e
        | some j =>
          rw [hj] at e
          cases e
          cases r1 with
          | ref hi =>
            cases r2
            obtain ⟨vs, hv1, hv2⟩ := C.cell _ _ ei
            have kk : Keep H (upd H _ (.lst (vs.set j v))) := keep_set hv1 fun z => z
            exact set_list pins s σ H _ _ v ov iv u Q I ro ri rv ⟨_, vs, _, j, rfl, rfl, hv1, by rw [← hv2.length]; exact hj, q _ kk (C.chg hi ⟨_, upd_same, (hv2.set r3 j).mono (Ext.refl _ _) (Nat.le_refl _) kk⟩)⟩
      · cases e
    · rename_i kvs ei
      cases hk : keyOf z with
      | none => rw [hk] at e; cases e
      | some k =>
        rw [hk] at e
        have e : (if kvs.length < bigL then some (h.set _ (.dct (PF.putK kvs k y))) else none) = some h' := e
        split at e
        · rename_i hl
          cases e
          cases r1 with
          | ref hi =>
            obtain ⟨ks, hv1, hv2⟩ := C.cell _ _ ei
            have ev := key_at r2 hk
            have okk := key_ok r2 hk
            subst ev
            have kk : Keep H (upd H _ (.dK (L2.putK ks (keyV k) v))) := keep_set hv1 fun z => z
            have hlen : kvs.length = ks.length := Paired.length hv2
            exact set_dict (by omega) pins s σ H _ _ v ov iv u Q I ro ri rv ⟨_, _, rfl, DPut.k hv1 (by rw [← hlen, ← bigL_eq]; exact hl), q _ kk (C.chg hi ⟨_, upd_same, KR.mono (Ext.refl _ _) (Nat.le_refl _) kk (hv2.put okk r3)⟩)⟩
        · cases e
    · cases e
  · cases e
theorem stL_len {w u y : PF.W} {h h' : Hs} (e : stL w u y h = some h') : h'.length = h.length := by
  unfold stL at e
  split at e
  · split at e
    · split at e
      · cases hj : ixW _ _ with
        | none => rw [hj] at e; cases e
        | some j => rw [hj] at e; cases e; rw [List.length_set]
      · cases e
    · cases hk : keyOf u with
      | none => rw [hk] at e; cases e
      | some k =>
        rw [hk] at e
        have e : (if _ then some (h.set _ _) else none) = some h' := e
        split at e
        · cases e; rw [List.length_set]
        · cases e
    · cases e
  · cases e
theorem gs_sub {d o i : PF.D} (gd : Grow d) (go : Grow o) (gi : Grow i) : GrowS (sSub d o i stL) := fun ρ h => growsS.onR (gd ρ h) fun v h1 _ l1 => growsS.onR ((go ρ h1).le l1) fun x h2 _ l2 => growsS.onR ((gi ρ h2).le l2) fun y h3 _ l3 => by
  split
  · rename_i h4 e
    show h.length ≤ h4.length
    rw [stL_len e]
    exact l3
  · trivial
theorem rs_sub (hu : X.A.units + 64 < cLine) {o i e : Expr} {pos p2 : Pos} {d od id' : PF.D} (he : RE X cls W e d) (ho : RE X cls W o od) (hi : RE X cls W i id')
    (ha : ∀ v, assign (.Subscript o i p2) X.env v = (do
      let ov ← holding [v] (eval o X.env)
      let iv ← holding [v, ov] (eval i X.env)
      standAt p2
      holding [v, ov, iv] (setItem ov iv v)
      release [v, ov, iv] []) := by intro _; rfl)
    (hs : swapsWithSole [.Subscript o i p2] e pos.line X.env = pure false := by rfl) (hw : swappedStores [.Subscript o i p2] e X.env = pure none := by rfl)
    (h1 : (assignEach [.Subscript o i p2] X.env).map (·.2) = [assign (.Subscript o i p2) X.env] := by rfl) : RS X cls W (.Assign [.Subscript o i p2] e pos) (sSub d od id' stL) :=
  ⟨(ps_asg he.pe (pg_sub ho.pe hi.pe (set_s hu (cls := cls)) ha) hs hw h1).imp fun D σ H t => t.ok fun φ h ρ x p => x.firstS (he.g ρ h) p fun v H1 φ1 w1 h1 g1 x1 p1 => x1.firstS (ho.g ρ h1) p1 fun a H2 φ2 w2 h2 g2 x2 p2 => x2.firstS (hi.g ρ h2) p2 fun b H3 φ3 w3 h3 g3 x3 p3 => by
    split at p3
    · rename_i h4 e4
      refine ⟨φ3, h3, w2, w3, w1, g3.C, VR.mono g3.e g3.l g3.k g2.r, g3.r, VR.mono g3.e g3.l g3.k (VR.mono g2.e g2.l g2.k g1.r), h4, e4, fun H' kk C' => p3 φ3 σ H' (Ext.refl _ _) kk ⟨C', ?_⟩⟩
      rw [stL_len e4]
      exact x3.S.mono (Ext.refl _ _) (Nat.le_refl _) kk
    · exact p3.elim, gs_sub he.g ho.g hi.g⟩
/-! ### in, not in: flat things in a list or a tuple; a sign in a text -/
theorem eqF_at {K : PySem.W.Frag} {φ : Phi} {n : Nat} {H : Hp} {w u : PF.W} {x y : V} {b : Bool} (r : VR K φ n H w x) (q : VR K φ n H u y) (e : eqF w u = some b) : flatV x = true ∧ flatV y = true ∧ eqV x y = b := by
  cases r <;> cases q <;> simp [eqF] at e <;> (subst e; simp [flatV, eqV, sS_beq])
theorem inF_at {K : PySem.W.Frag} {φ : Phi} {n : Nat} {H : Hp} {w : PF.W} {x : V} (r : VR K φ n H w x) (fw : flatV x = true) : ∀ {ws : List PF.W} {vs : List V} {b : Bool}, VRs K φ n H ws vs → inF w ws = some b → vs.all flatV = true ∧ L2.inV x vs = b
  | [], _, b, .nil, e => by cases e; exact ⟨rfl, rfl⟩
  | u :: us, _, b, .cons r0 rr, e => by
    rw [inF] at e
    cases e1 : eqF u w with
    | none => rw [e1] at e; cases e
    | some c =>
      rw [e1] at e
      cases e2 : inF w us with
      | none => rw [e2] at e; cases e
      | some c2 =>
        rw [e2] at e
        cases e
        obtain ⟨f1, _, f2⟩ := eqF_at r0 r e1
        obtain ⟨f3, f4⟩ := inF_at r fw rr e2
        refine ⟨by rw [List.all_cons, f1, f3]; rfl, ?_⟩
        unfold L2.inV at f4 ⊢
        rw [List.any_cons, f2, f4]
theorem flat_at {K : PySem.W.Frag} {φ : Phi} {n : Nat} {H : Hp} {w : PF.W} {x : V} (r : VR K φ n H w x) (e : flatF w = true) : flatV x = true := by
  cases r <;> simp [flatF] at e <;> rfl
theorem eqD_any {d : Da} : ∀ ds : List Da, (Da.pys ds).any (fun z => PyData.eqv z d.py) = anyD d ds
  | [] => rfl
  | z :: ds => by
    have e := eqD_any (d := d) ds
    unfold anyD at e ⊢
    rw [Da.pys, List.any_cons, List.any_cons, e, Da.eqv_py]
theorem dctOf_at {K : PySem.W.Frag} {φ : Phi} {h : Hs} {H : Hp} {w : PF.W} {v : V} {kvs : List (Key × PF.W)} (C : Cells K cls φ h H) (r : VR K φ h.length H w v) (e : dctOf w h = some kvs) : ∃ a ks, v = .ref a ∧ H a = some (.dK ks) ∧ KR K φ h.length H kvs ks := by
  cases r with
  | @ref i hi =>
    unfold dctOf at e
    dsimp only at e
    split at e
    · rename_i ws ei
      cases e
      obtain ⟨vs, h1, h2⟩ := C.cell _ _ ei
      exact ⟨_, vs, rfl, h1, h2⟩
    · cases e
  | _ => cases e
theorem o_in (hu : X.A.units + 64 < cLine) : OpR X (compareOp .In) (rO X.K cls oIn) := by
  rintro pins s σ H x y v u Q I rx ry ⟨φ, h, w1, w2, E, C, r1, r2, p⟩
  unfold oIn at p
  split at p
  · rename_i c z
    cases r1; cases r2
    refine op_in_sign pins s σ H _ _ v u Q I rx ry ⟨c, sS z, rfl, rfl, ?_⟩
    have q := rO_ok C p (.bl _)
    have e : (sS z).cps.toList = z := by simp [sS]
    rw [e]
    exact q
  · split at p
    · rename_i b e
      unfold inA at e
      split at e
      · rename_i kvs ed
        cases hk : keyOf w1 with
        | none => rw [hk] at e; cases e
        | some k =>
          rw [hk] at e
          cases e
          obtain ⟨a, ks, rfl, hk1, hk2⟩ := dctOf_at C r2 ed
          have ev := key_at r1 hk
          subst ev
          cases ry
          refine d_in (by omega) I (DGet.k hk1) rx fun s' I' => ?_
          have : (lookK kvs k).isSome = (L2.valV ks (keyV k)).isSome := by
            rcases hk2.look k with ⟨_, _, e1, e2, _⟩ | ⟨e1, e2⟩ <;> rw [e1, e2] <;> rfl
          rw [← this]
          exact ⟨.bl _, H, I', rfl, rO_ok C p (.bl _)⟩
      · split at e
        · rename_i hf
          cases es : seqOf w2 h with
          | none => rw [es] at e; cases e
          | some ws =>
            rw [es] at e
            obtain ⟨a, vs, rfl, hs, hr⟩ := seqOf_at C r2 es
            obtain ⟨f1, f2⟩ := inF_at r1 (flat_at r1 hf) hr e
            exact op_in_seq pins s σ H _ _ v u Q I rx ry ⟨a, vs, rfl, hs, flat_at r1 hf, f1, by rw [f2]; exact rO_ok C p (.bl b)⟩
        · split at e
          · rename_i d ds e1 e2
            cases e
            obtain ⟨a1, a2, a3⟩ := Dp_of C _ _ _ _ r1 e1
            obtain ⟨b1, b2, b3⟩ := Dp_of C _ _ _ _ r2 e2
            have l : deepest ≤ 60 := by decide
            obtain ⟨as, q1⟩ := Dp.reads I d.py x v a1 rx
            obtain ⟨bs, q2⟩ := Dp.reads I (Da.lst ds).py y u b1 ry
            rw [Da.py] at q2 b2
            refine SeqAt.in_list_reads q2 q1 b2 a2 (by have := Nat.min_le_right (PyData.depthAll (Da.pys ds)) d.py.depth; omega) ?_
            rw [eqD_any]
            exact ⟨.bl _, H, I, rfl, rO_ok C p (.bl _)⟩
          · cases e
    · exact p.elim
theorem o_nin (hu : X.A.units + 64 < cLine) : OpR X (compareOp .NotIn) (rO X.K cls oNin) := by
  rintro pins s σ H x y v u Q I rx ry ⟨φ, h, w1, w2, E, C, r1, r2, p⟩
  unfold oNin at p
  split at p
  · rename_i c z
    cases r1; cases r2
    refine op_notIn_sign pins s σ H _ _ v u Q I rx ry ⟨c, sS z, rfl, rfl, ?_⟩
    have q := rO_ok C p (.bl _)
    have e : (sS z).cps.toList = z := by simp [sS]
    rw [e]
    exact q
  · split at p
    · rename_i b e
      unfold inA at e
      split at e
      · rename_i kvs ed
        cases hk : keyOf w1 with
        | none => rw [hk] at e; cases e
        | some k =>
          rw [hk] at e
          cases e
          obtain ⟨a, ks, rfl, hk1, hk2⟩ := dctOf_at C r2 ed
          have ev := key_at r1 hk
          subst ev
          cases ry
          refine d_notIn (by omega) I (DGet.k hk1) rx fun s' I' => ?_
          have : (lookK kvs k).isSome = (L2.valV ks (keyV k)).isSome := by
            rcases hk2.look k with ⟨_, _, e1, e2, _⟩ | ⟨e1, e2⟩ <;> rw [e1, e2] <;> rfl
          rw [← this]
          exact ⟨.bl _, H, I', rfl, rO_ok C p (.bl _)⟩
      · split at e
        · rename_i hf
          cases es : seqOf w2 h with
          | none => rw [es] at e; cases e
          | some ws =>
            rw [es] at e
            obtain ⟨a, vs, rfl, hs, hr⟩ := seqOf_at C r2 es
            obtain ⟨f1, f2⟩ := inF_at r1 (flat_at r1 hf) hr e
            exact op_notIn_seq pins s σ H _ _ v u Q I rx ry ⟨a, vs, rfl, hs, flat_at r1 hf, f1, by rw [f2]; exact rO_ok C p (.bl (!b))⟩
        · split at e
          · rename_i d ds e1 e2
            cases e
            obtain ⟨a1, a2, a3⟩ := Dp_of C _ _ _ _ r1 e1
            obtain ⟨b1, b2, b3⟩ := Dp_of C _ _ _ _ r2 e2
            have l : deepest ≤ 60 := by decide
            obtain ⟨as, q1⟩ := Dp.reads I d.py x v a1 rx
            obtain ⟨bs, q2⟩ := Dp.reads I (Da.lst ds).py y u b1 ry
            rw [Da.py] at q2 b2
            refine SeqAt.notIn_list_reads q2 q1 b2 a2 (by have := Nat.min_le_right (PyData.depthAll (Da.pys ds)) d.py.depth; omega) ?_
            rw [eqD_any]
            exact ⟨.bl _, H, I, rfl, rO_ok C p (.bl _)⟩
          · cases e
    · exact p.elim
theorem g_in : GrO oIn := fun w u h => by
  unfold oIn
  split
  · exact Nat.le_refl _
  · split <;> first | exact Nat.le_refl _ | trivial
theorem g_nin : GrO oNin := fun w u h => by
  unfold oNin
  split
  · exact Nat.le_refl _
  · split <;> first | exact Nat.le_refl _ | trivial
/-! ### {} and d.get(k, x) -/
theorem gr_dct0 : Grow dDct0 := fun ρ h => by
    show h.length ≤ (h ++ _).length
    rw [List.length_append]
    omega
theorem re_dct0 {pos : Pos} : RE X cls W (.Dict [] [] pos) dDct0 :=
  ⟨pe_dnewK.imp fun σ H Q t => t.ok fun φ h ρ x p => fun q hq => by
    have q1 := p (put φ h.length q) (.ref q) _ (put_ext _ _ _) (keep_new hq) (x.C.new hq ⟨[], upd_same, .nil⟩)
    refine q1 ?_
    have e : V.ref q = .ref (put φ h.length q h.length) := by rw [put_at]
    rw [e]
    exact .ref (by rw [List.length_append, List.length_singleton]; exact Nat.lt_succ_self _),
   fun ρ h => by
    show h.length ≤ (h ++ _).length
    rw [List.length_append]
    omega⟩
theorem m_get (hu : X.A.units + 64 < cLine) : MtR X "dict.get" (rM X.K cls mGet) := by
  rintro pins s σ H x xs v us Q I rx rs ⟨φ, h, w, ws, E, C, r, t, p⟩
  unfold mGet at p
  split at p
  · split at p
    · rename_i kvs ei
      split at p
      · rename_i k hk
        cases r with
        | ref hi =>
          cases t with
          | cons t1 tt =>
            cases tt with
            | cons t2 tt2 =>
              cases tt2
              obtain ⟨ks, hv1, hv2⟩ := C.cell _ _ ei
              have ev := key_at t1 hk
              subst ev
              cases rx
              cases rs with
              | cons s1 st =>
                cases st with
                | cons s2 st2 =>
                  cases st2
                  refine d_get2 (by omega) I (DGet.k hv1) s1 s2 fun w' s' I' rw' => ⟨_, H, I', rw', ?_⟩
                  rcases hv2.look k with ⟨w0, z, e1, e2, rz⟩ | ⟨e1, e2⟩
                  · rw [e1] at p
                    rw [e2]
                    exact rO_ok C p rz
                  · rw [e1] at p
                    rw [e2]
                    exact rO_ok C p t2
      · exact p.elim
    · exact p.elim
  · exact p.elim
theorem gm_get : GrM mGet := fun w ws h => by
  unfold mGet
  split
  · split
    · split
      · exact Nat.le_refl _
      · trivial
    · trivial
  · trivial
end
end PF
namespace PFX0
open PySem PySem.Spec PySem.Calls PySem.W PyProof.Rows
theorem bind_data {K : Frag} {C : Addr} {od : Option Obj} {nm : PySem.Str} {u v : Value} (h1 : (clsIn K C).isSome = true) (h2 : findIn K (.ref C) nm = some (some u)) (h3 : specialIn K u "__get__" = some (some v)) (h4 : takesIn K u = some true) : findObj K C od nm = some (.bind v u) := by
  cases h5 : clsIn K C with
  | none => rw [h5] at h1; cases h1
  | some cd =>
    unfold findObj
    simp [h5, h2, h3, h4]
theorem has_cls {K : Frag} {D : Addr} (h : hasDictIn K D = true) : (clsIn K D).isSome = true := by
  obtain ⟨cd, e, _⟩ := any_some h
  rw [e]
  rfl
theorem own_class {prog : Program} {w : World} {A : Around} {E : Value → Shared → Prop} {s : Shared} {K : Frag} {x D : Addr} {ox : Obj} {od : Option Obj} {Q : Option Value → Shared → Prop} (C : L2.ExcC K D) (X : K.In s.heap) (I : InstAt s.heap x ox D od)
    (q : Q (some (.ref D)) { s with toks := s.toks + 1 }) : wpAny (model prog w) A (getAttr? (.ref x) "__class__") Q E s := by
  have fo : findObj K D od "__class__" = some (.bind (.builtin "getset_descriptor.__get__") (.builtin "object.__class__")) := bind_data (has_cls C.hd) C.ha C.hn C.ht
  obtain ⟨hp, gs, dr, tk, os⟩ := s
  have t0 := I.type (M := model prog w)
  have t1 := looks_findIn (M := model prog w) X C.hg
  have t2 := looks_findIn (M := model prog w) X C.hk
  have t3 := looks_find (M := model prog w) X I fo
  have isB : Looks (model prog w) hp (isInstance (.ref x) (.type "BaseException")) true := t0.andThen (looks_subIn X C.hs)
  have ne : (Value.builtin "BaseException.__getattribute__" == Value.builtin "object.__getattribute__") = false := by decide +kernel
  have ne1 : (onTheHeap (Value.ref D) && Value.builtin "BaseException.__getattribute__" == Value.builtin "object.__getattribute__") = false := by rw [ne, Bool.and_false]
  unfold getAttr? getAttrBy? getAttrBy
  refine wpAny_bind (wpAny_mkText (wpAny_bind (wpAny_attempt (wpAny_holding (wpAny_bind (t0.at (wpAny_bind (t1.at ?_))))))))
  show wpAny _ _ (ite ((onTheHeap (Value.ref D) && Value.builtin "BaseException.__getattribute__" == Value.builtin "object.__getattribute__") = true) _ _) _ _ _
  rw [if_neg (by rw [ne1]; exact Bool.false_ne_true)]
  unfold getAttrByItsOwn hookBefore
  refine wpAny_bind ?_
  rw [if_pos (by rfl)]
  refine t2.at ?_
  refine wpAny_bind (wpAny_attempt (wpAny_holding ?_))
  unfold callGetattribute
  rw [if_neg (by intro z; cases z)]
  unfold boundAndCalled
  rw [PySem.F.excAttr_ValueError.ga.bind (.ref x)]
  refine wpAny_bind (wpAny_pure ?_)
  show wpAny _ _ (call (.builtin "BaseException.__getattribute__") [.ref x, .str "__class__" tk]) _ _ _
  refine wpAny_call (codeAny_call_builtin PySem.F.excAttr_ValueError.ga.plain PySem.F.entry_bexc_ga (@check_slot (model prog w) _ _ ⟨hp, gs, dr, tk + 1, os⟩ "BaseException.__getattribute__" "BaseException" "__getattribute__" (.ref x) [.str "__class__" tk] [] _ (by decide +kernel) (by decide +kernel) isB (PySem.F.args_bexc_ga (.ref x) (.str "__class__" tk)) ?_))
  unfold Builtin.«object.__getattribute__»
  refine wpAny_bind (wpAny_of_eq (a := ((Value.ref x : Value), [Value.str "__class__" tk])) (by first | rfl | (simp only [slotArgs]; rfl)) (wpAny_bind (wpAny_pure (wpAny_bind (t0.at (wpAny_bind (t3.at ?_)))))))
  show wpAny _ _ (holding [Value.builtin "object.__class__"] (call (.builtin "getset_descriptor.__get__") [.builtin "object.__class__", .ref x, .ref D]) >>= ret) _ _ _
  refine wpAny_bind (wpAny_holding (wpAny_call (class_get (s := ⟨hp, gs, dr, tk + 1, os⟩) (ox := ox) (od := od) X I C.hm (wpAny_pure ?_))))
  show wpAny _ _ (handedOut (.ref D)) _ _ _
  rw [handedOut_of (v := .ref D) rfl]
  first
    | exact wpAny_pure (wpAny_pure q)
    | exact wpAny_pure q
    | exact wpAny_pure (wpAny_bind (wpAny_pure (wpAny_pure q)))
end PFX0
namespace PF
open PySem PySem.Spec PyProof.Rows L2
theorem kitx_at {K : PySem.W.Frag} {x D : Addr} {ox : Obj} (C : ExcC K D) : PySem.W.KitX K (.ref x) (.ref D) (fun h => ∃ od, PySem.W.InstAt h x ox D od) where
  ty := fun _ _ _ ⟨_, I⟩ => I.type
  it := fun _ h X _ => by
    obtain ⟨cd, e, _⟩ := PySem.W.any_some C.hd
    unfold PySem.W.clsIn at e
    split at e
    · rename_i ho
      intro A2 Q2 E2 s2 k q
      unfold isType loadHead
      exact wpAny_bind (wpAny_loadPart (k _ _ (X _ _ ho)) (wpAny_pure q))
    · cases e
  ne := fun h tp dd its n sl X htp => by
    obtain ⟨cd, e, _⟩ := PySem.W.any_some C.hd
    rw [Bool.eq_false_iff]
    intro q
    cases beq_iff_eq.mp q
    unfold PySem.W.clsIn at e
    split at e
    · rename_i ho
      cases (X _ _ ho).symm.trans htp
    · cases e
  ca := fun X ⟨_, I⟩ k => PFX0.own_class C X I k
end PF
namespace PF
open PySem PySem.Spec PyProof.Rows L2
section
variable {X : Cx} {cls : Cl} {W : WX}
/-! ### xs[::-1] -/
theorem gr_rev {a : PF.D} (ga : Grow a) : Grow (dRev a) := fun ρ h => (ga ρ h).bind fun w h1 _ l => by
  split
  · exact (newL_grows _ _).le l
  · trivial
theorem re_rev {e : Expr} {d : PF.D} {k : Tok} {p1 p2 p3 pos : Pos} (he : RE X cls W e d) : RE X cls W (.Subscript e (.Slice none none (some (.UnaryOp .USub (.Constant (.int 1) k p1) p2)) p3) pos) (dRev d) :=
  ⟨(pe_revL he.pe).imp fun σ H Q t => t.ok fun φ h ρ x p => x.first (he.g ρ h) p fun v H1 φ1 w1 h1 g1 x1 p1 => by
    have r1 : VR X.K φ1 h1.length H1 w1 v := g1.r
    split at p1
    · rename_i ws e1
      obtain ⟨a, vs, rfl, hs, hr⟩ := lstOf_at g1.C r1 e1
      exact ⟨a, vs, rfl, hs, post_lst g1.C hr.reverse p1⟩
    · exact p1.elim, gr_rev he.g⟩
/-! ### classes of errors -/
/-- the classes named in a tuple, as arguments -/
theorem pa_cls0 : PA X [] (fun _ H Q => Q [] H) := pa_nil
theorem pa_cls {e : Expr} {es : List Expr} {v : V} {cs : List V} (he : PE X e (tC v)) (hs : PA X es (fun _ H Q => Q cs H)) (hst : starEach (e :: es) X.env = (false, eval e X.env) :: starEach es X.env := by rfl) : PA X (e :: es) (fun _ H Q => Q (v :: cs) H) := pa_cons he hs hst
def clsV (cls : Cl) (ids : List Nat) : List V := ids.map fun i => V.ref (cls i)
theorem kitAny_ids {K : PySem.W.Frag} {t : Value} {c : Nat} : ∀ ids : List Nat, (∀ i, i ∈ ids → PySem.W.kitOne K t (.ref (cls i)) = some (c == i)) → PySem.W.kitAny K t (ids.map fun i => Value.ref (cls i)) = some (ids.any fun i => c == i)
  | [], _ => rfl
  | i :: is, h => kitAny_cons (h i List.mem_cons_self) (fun hb => by
      rw [kitAny_ids is fun j hj => h j (List.mem_cons_of_mem _ hj), List.any_cons, hb, Bool.false_or]) fun hb => by rw [List.any_cons, hb]; rfl
theorem paired_ids : ∀ ids : List Nat, Paired ClsV (clsV cls ids) (ids.map fun i => Value.ref (cls i))
  | [] => .nil
  | i :: is => .cons (.own _) (paired_ids is)
/-- the caught error's own dict -/
def DictAt (H : Hp) (d : Option Addr) : Prop := d = none ∨ ∃ (dd : Addr) (fs : List (PySem.Str × V)), d = some dd ∧ H dd = some (.xd fs)
theorem inst_at {a D : Addr} {d : Option Addr} {oe : Obj} {pn pins : List (Addr × Obj)} {σ : L2.St} {H : Hp} {s : Shared} (I : Inv (X.suite a ((a, oe) :: pn)) pins σ H s) (hz : Zc (.ref D) d oe) (hf : ∃ vs, oe.data = .fields vs) (hd : DictAt H d) : ∃ od, PySem.W.InstAt s.heap a oe D od := by
  obtain ⟨hget, _⟩ := I.pin (a, oe) (List.mem_append.mpr (.inl List.mem_cons_self))
  obtain ⟨vs, hv⟩ := hf
  have nc : PySem.W.notCls oe = true := by
    unfold PySem.W.notCls
    rw [hv]
  rcases hd with rfl | ⟨dd, fs, rfl, e⟩
  · exact ⟨none, hget, hz.1, nc, by rw [hz.2]; trivial⟩
  · have hx : ObjOk X.prog X.w H s.heap dd (.xd fs) := I.hok dd _ e
    obtain ⟨mA, ⟨od, es, ep, ho, _⟩, hr⟩ := hx
    exact ⟨some od, hget, hz.1, nc, by rw [hz.2]; exact ho⟩
theorem er_imp {a : Addr} {d : Option Addr} {i : Nat} {b : Bool} {σ : L2.St} {H : Hp} {Q : VK} {W' : WX} (t : tG X.K (cls.in a d) (rW X.K) W' (dEr i b) σ H Q) : ∃ φ h ρ, At X.K (cls.in a d) φ h ρ σ H ∧ σ[i]? = some (some (.ref a)) ∧ DictAt H d ∧ Post X.K (cls.in a d) (rW X.K) φ h.length H (fun c d H' => W' c d σ H') Q (.ok (.bl b) h) := by
  obtain ⟨φ, h, ρ, x, p⟩ := t
  unfold dEr at p
  split at p
  · rename_i e
    obtain ⟨h1, h2⟩ := er_at x e (.inl rfl)
    refine ⟨φ, h, ρ, x, h1, ?_, p⟩
    rcases h2 with h2 | ⟨_, _, _, _, _, h2, h3, _⟩
    · exact .inl h2
    · exact .inr ⟨_, _, h2, h3⟩
  · rename_i e
    obtain ⟨h1, h2⟩ := er_at x e (.inr ⟨_, _, rfl⟩)
    refine ⟨φ, h, ρ, x, h1, ?_, p⟩
    rcases h2 with h2 | ⟨_, _, _, _, _, h2, h3, _⟩
    · exact .inl h2
    · exact .inr ⟨_, _, h2, h3⟩
  · exact p.elim
theorem call_is1 {a D : Addr} {d : Option Addr} {oe : Obj} {pn : List (Addr × Obj)} (C : ExcC X.K D) (hz : Zc (.ref D) d oe) (hf : ∃ vs, oe.data = .fields vs) :
    CallR (X.suite a ((a, oe) :: pn)) (.builtin "isinstance") (fun xs H Q => ∃ (c : V) (cv : Value) (b : Bool), xs = [.ref a, c] ∧ DictAt H d ∧ (∀ u, RelV c u → u = cv) ∧ PySem.W.kitOne X.K (.ref D) cv = some b ∧ Q (.bl b) H) := by
  intro pins s σ H xs us Q I r h
  obtain ⟨c, cv, b, rfl, hd, hcv, e, q⟩ := h
  obtain ⟨u1, u2, rfl, rx, rt⟩ := vals2 r
  cases (show u1 = Value.ref a from rx)
  cases hcv _ rt
  exact PySem.W.kia_one (kitx_at C) I.kIn (inst_at I hz hf hd) e (fun z => nomatch z) fun tk => ⟨.bl b, H, I.tok tk, rfl, q⟩
theorem call_is2 {a D : Addr} {d : Option Addr} {oe : Obj} {pn : List (Addr × Obj)} (C : ExcC X.K D) (hz : Zc (.ref D) d oe) (hf : ∃ vs, oe.data = .fields vs) :
    CallR (X.suite a ((a, oe) :: pn)) (.builtin "isinstance") (fun xs H Q => ∃ (tp : Addr) (cs : List V) (us : List Value) (b : Bool), xs = [.ref a, .ref tp] ∧ DictAt H d ∧ H tp = some (.tup cs) ∧ Paired ClsV cs us ∧ PySem.W.kitAny X.K (.ref D) us = some b ∧ Q (.bl b) H) := by
  intro pins s σ H xs us Q I r h
  obtain ⟨tp, cs, ws, b, rfl, hd, hT, k, e, q⟩ := h
  obtain ⟨u1, u2, rfl, rx, r2⟩ := vals2 r
  cases (show u2 = Value.ref tp from r2)
  cases (show u1 = Value.ref a from rx)
  obtain ⟨_, its, rv, o, h1, h2, n, h3⟩ := (show ObjOk X.prog X.w H s.heap tp (.tup cs) from I.hok tp _ hT)
  have e3 := ClsV.all k rv
  subst e3
  obtain ⟨oc, od, dt, sl⟩ := o
  simp only at h2 h3
  subst h2 h3
  exact PySem.W.kia_tup (kitx_at C) I.kIn (inst_at I hz hf hd) h1 e (fun z => nomatch z) fun tk => ⟨.bl b, H, I.tok tk, rfl, q⟩
/-- isinstance(e, C) in the suite: C an own class, or a built-in one -/
theorem re_isE {a : Addr} {oe : Obj} {d : Option Addr} {pn : List (Addr × Obj)} {D : Addr} {W' : WX} (i : Nat) {b : Bool} {x n : PySem.Str} {p p1 p2 pos : Pos} {c : V} {cv : Value} (hN : X.N[i]? = some n) (hv : Vis X.env.scope n) (C : ExcC X.K D) (hz : Zc (.ref D) d oe) (hf : ∃ vs, oe.data = .fields vs)
    (hg : Gl X "isinstance") (hm : X.mg "isinstance" = none) (hc : PE (X.suite a ((a, oe) :: pn)) (.Name x p2) (tC c)) (hcv : ∀ u, RelV c u → u = cv) (hk : PySem.W.kitOne X.K (.ref D) cv = some b) (hd : (n == ("__debug__" : PySem.Str)) = false := by decide) (hcd : (n == ("__classdict__" : PySem.Str)) = false := by decide) :
    RE (X.suite a ((a, oe) :: pn)) (cls.in a d) W' (.Call (.Name "isinstance" p) [.Name n p1, .Name x p2] [] pos) (dEr i b) :=
  ⟨(pe_callB (X := X.suite a ((a, oe) :: pn)) (call_is1 C hz hf) hg hm boot_isinstance (pa_cons (pe_var (X := X.suite a ((a, oe) :: pn)) hN hv hd hcd) (pa_cons hc pa_nil rfl) rfl) (by decide) (by decide) rfl rfl).imp fun σ H Q t => by
    obtain ⟨φ, h, ρ, x, e, z, p⟩ := er_imp t
    exact ⟨.ref a, e, c, cv, b, rfl, z, hcv, hk, rO_ok x.C p (.bl b)⟩, gr_er i b⟩
/-- isinstance(e, (C1, C2, ..)) -/
theorem re_isET {a : Addr} {oe : Obj} {d : Option Addr} {pn : List (Addr × Obj)} {W' : WX} (i c : Nat) (ids : List Nat) {n : PySem.Str} {es : List Expr} {p p1 p2 pos : Pos} {j : Tok} (hN : X.N[i]? = some n) (hv : Vis X.env.scope n) (C : ExcC X.K (cls c)) (hz : Zc (.ref (cls c)) d oe) (hf : ∃ vs, oe.data = .fields vs)
    (hg : Gl X "isinstance") (hm : X.mg "isinstance" = none) (hc : PA (X.suite a ((a, oe) :: pn)) es (fun _ H Q => Q (clsV cls ids) H)) (hl : ids.length ≤ 1000) (hk : ∀ k, k ∈ ids → PySem.W.kitOne X.K (.ref (cls c)) (.ref (cls k)) = some (c == k)) (hd : (n == ("__debug__" : PySem.Str)) = false := by decide) (hcd : (n == ("__classdict__" : PySem.Str)) = false := by decide) :
    RE (X.suite a ((a, oe) :: pn)) (cls.in a d) W' (.Call (.Name "isinstance" p) [.Name n p1, .Tuple es j p2] [] pos) (dEr i (ids.any fun k => c == k)) :=
  ⟨(pe_callB (X := X.suite a ((a, oe) :: pn)) (call_is2 C hz hf) hg hm boot_isinstance (pa_cons (pe_var (X := X.suite a ((a, oe) :: pn)) hN hv hd hcd) (pa_cons (pe_tup hc) pa_nil rfl) rfl) (by decide) (by decide) rfl rfl).imp fun σ H Q t => by
    obtain ⟨φ, h, ρ, x, e, z, p⟩ := er_imp t
    refine ⟨.ref a, e, ?_, fun q hq => ?_⟩
    · unfold clsV
      rw [List.length_map]
      exact Nat.le_trans hl (Nat.le_of_lt (small1000 (Nat.le_refl _)))
    · refine ⟨q, clsV cls ids, _, _, rfl, ?_, upd_same, paired_ids ids, kitAny_ids ids hk, ?_⟩
      · rcases z with z | ⟨dd, fs, z1, z2⟩
        · exact .inl z
        · exact .inr ⟨dd, fs, z1, keep_new hq _ _ trivial z2⟩
      · exact p φ _ _ (Ext.refl _ _) (keep_new hq) (x.C.other hq) (.bl _), gr_er i _⟩
/-- the field of the caught error -/
theorem re_fd {a : Addr} {oe : Obj} {d : Option Addr} {pn : List (Addr × Obj)} {D : Addr} {W' : WX} (i : Nat) (f : List Nat) {n fn : PySem.Str} {p1 pos : Pos} (hN : X.N[i]? = some n) (hv : Vis X.env.scope n) (T : XfC X.K D) (hno : PySem.W.findIn X.K (.ref D) fn = some none) (hz : Zc (.ref D) d oe) (hf : ∃ vs, oe.data = .fields vs) (hs : fn = sS f)
    (hd : (n == ("__debug__" : PySem.Str)) = false := by decide) (hcd : (n == ("__classdict__" : PySem.Str)) = false := by decide) : RE (X.suite a ((a, oe) :: pn)) (cls.in a d) W' (.Attribute (.Name n p1) fn pos) (dFd i f) :=
  ⟨(pe_xf T hno hz hf (pe_var (X := X.suite a ((a, oe) :: pn)) hN hv hd hcd)).imp fun σ H Q t => by
    obtain ⟨φ, h, ρ, x, p⟩ := t
    unfold dFd at p
    split at p
    · rename_i g w e
      split at p
      · rename_i eg
        subst eg
        obtain ⟨h1, h2⟩ := er_at x e (.inr ⟨_, _, rfl⟩)
        rcases h2 with h2 | ⟨dd, f, v, u, e1, e2, e3, e4⟩
        · obtain ⟨v, hv, r⟩ := x.S.2 i _ e
          cases r with
          | errF h z r =>
            rw [x.C.noe, h2] at h
            cases h
        · cases e1
          exact ⟨.ref a, h1, rfl, rfl, dd, _, v, e2, e3, by rw [hs]; simp, p φ v H (Ext.refl _ _) (Keep.refl _) x.C e4⟩
      · exact p.elim
    · exact p.elim, gr_fd i f⟩
/-- an own class in an except clause, in isinstance -/
theorem names_own {x : PySem.Str} {C : Addr} (hg : Gl X x) (hm : X.mg x = some (.ref C)) (hd : (x == ("__debug__" : PySem.Str)) = false := by decide) : Names X x (.ref C) := ⟨hg, hd, .inl hm⟩
theorem subL {a b : List Nat} (h : (a.all fun i => decide (i ∈ b)) = true) : ∀ i, i ∈ a → i ∈ b := fun i hi => of_decide_eq_true (List.all_eq_true.mp h i hi)
/-- facts of the classes that may be raised (L), as against those that are named (ids) -/
structure ExK (K : PySem.W.Frag) (cls : Cl) (L : List Nat) (base : Nat) (ids : List Nat) : Prop where
  ec : ∀ k, k ∈ L → ExcC K (cls k)
  kb : ∀ k, k ∈ L → PySem.W.kitOne K (.ref (cls k)) (.type "ValueError") = some true
  ko : ∀ k, k ∈ L → ∀ j, j ∈ ids → PySem.W.kitOne K (.ref (cls k)) (.ref (cls j)) = some (k == j)
  kp : ∀ k, k ∈ L → PySem.W.kitOne K (.ref (cls k)) (.ref (cls base)) = some true
  xo : ∀ k, k ∈ L → ∀ j, j ∈ ids → PySem.W.exmOne K (.ref (cls k)) (.ref (cls j)) = some (k == j)
  xp : ∀ k, k ∈ L → PySem.W.exmOne K (.ref (cls k)) (.ref (cls base)) = some true
end
end PF
namespace PF
open PySem PySem.Spec PyProof.Rows L2
theorem kit_ref {K : PySem.W.Frag} {C D : Addr} {b : Bool} (hs : PySem.W.subIn K (.ref C) (.ref C) = some true) (hd : PySem.W.hasDictIn K D = true) (ht : PySem.W.typeIn K (.ref D) = some (.type "type")) (h4 : PySem.W.subIn K (.ref C) (.ref D) = some b) : PySem.W.kitOne K (.ref C) (.ref D) = some b := by
  by_cases e : C = D
  · subst e
    rw [hs] at h4
    cases h4
    show (if ((Value.ref C) == (Value.ref C)) = true then some true else _) = _
    rw [if_pos (by simp)]
  · obtain ⟨cd, hc, _⟩ := PySem.W.any_some hd
    have e2 : ((PySem.W.clsIn K D).isSome && PySem.W.typeIn K (.ref D) == some (.type "type")) = true := by rw [hc, ht] <;> rfl
    show (if ((Value.ref C) == (Value.ref D)) = true then some true else (if ((PySem.W.clsIn K D).isSome && PySem.W.typeIn K (.ref D) == some (.type "type")) = true then PySem.W.subIn K (.ref C) (.ref D) else none)) = _
    rw [if_neg (by simp [e]), if_pos e2]
    exact h4
theorem kit_val {K : PySem.W.Frag} {C : Addr} (h : PySem.W.subIn K (.ref C) (.type "ValueError") = some true) : PySem.W.kitOne K (.ref C) (.type "ValueError") = some true := by
  show (if ((Value.ref C) == (Value.type "ValueError")) = true then some true else (if PySem.W.kitMeta "ValueError" = true then PySem.W.subIn K (.ref C) (.type "ValueError") else none)) = _
  rw [if_neg (by simp), if_pos (by decide +kernel)]
  exact h
theorem allL_nil {p : Nat → Prop} : ∀ k, k ∈ ([] : List Nat) → p k := fun _ h => nomatch h
theorem allL_cons {p : Nat → Prop} {a : Nat} {l : List Nat} (h : p a) (t : ∀ k, k ∈ l → p k) : ∀ k, k ∈ a :: l → p k := List.forall_mem_cons.mpr ⟨h, t⟩
end PF
namespace PF
open PySem PySem.Spec PyProof.Rows L2
/-! ### an own error class whose __init__ keeps one field -/
/-- what the written part says of the class at B, whose __init__ is ValueError's -/
structure BaseC (K : PySem.W.Frag) (B : Addr) : Prop where
  sp : PySem.W.specialIn K (.ref B) "__getattribute__" = some (some (.builtin "type.__getattribute__"))
  rd : PySem.W.readsIn K B (.type "type") = true
  fi : PySem.W.findCls K (.ref B) (.type "type") "__init__" = some (.val (.builtin "ValueError.__init__"))
section
variable {X : Cx} {B : Addr} {e : Expr} {es : List Expr} {ta : TA} {n fn : PySem.Str} {p1 p2 p3 p4 p5 p6 p7 p8 p9 p10 pos : Pos}
/-- B.__init__(self, ..) -/
theorem pe_cinit (hg : Gl X n) (hm : X.mg n = some (.ref B)) (C : BaseC X.K B) (ha : PA X (e :: es) ta) (hdb : (n == ("__debug__" : PySem.Str)) = false := by decide) {pl : Sem Bool}
    (hc : eval (.Call (.Attribute (.Name n p1) "__init__" p2) (e :: es) [] pos) X.env = (do
      let v ← eval (.Name n p1) X.env
      standAt p2.atName
      let (f, us) ← holding [v] (getMethod v "__init__" pl)
      callWith pos f us (backTo pos (starEach (e :: es) X.env)) (backToKw pos (keywordEach [] X.env))) := by rfl)
    (he : starEach (e :: es) X.env = (false, eval e X.env) :: starEach es X.env := by rfl) (hpl : (backTo pos (starEach es X.env)).any (·.1) = false := by rfl) :
    PE X (.Call (.Attribute (.Name n p1) "__init__" p2) (e :: es) [] pos) (tVeI X.K ta) := by
  refine ⟨fun pins s σ H Q I h => PySem.W.methodCall_KW (ld_glob I hg hm (PySem.W.method_cls I.kIn C.sp (PySem.W.cls_value I.kIn C.rd C.fi (by decide +kernel) ?_)) hdb) hc⟩
  show wpAny _ _ (callWith pos (Value.builtin "ValueError.__init__") [] (backTo pos (starEach (e :: es) X.env)) []) _ _ _
  refine PyProof.Rows.callWith_method1 (thn (ha.run pos pins _ σ H _ (I.tok _) h) fun us s1 q => ?_) he hpl
  obtain ⟨vs, H1, I1, r1, a, D, ws, rfl, hl, T, ea, q⟩ := q
  cases r1 with
  | cons ra rw' =>
    cases ra
    refine oinit_ok T I1 ea ?_ fun s2 J => ⟨.non, H1, J, rfl, q⟩
    rw [← Paired.length rw', sizeLine_eq]
    omega
/-- the body of such an __init__ -/
def tInit (K : PySem.W.Frag) (fn : PySem.Str) : TS := fun D σ H => ∃ (a C : Addr) (v : V), σ = [some (.ref a), some v] ∧ OexC K C ∧ PySem.W.findIn K (.ref C) fn = some none ∧ H a = some (exo a C none) ∧
  ∀ dx, H dx = none → dx ≠ a → D.nx σ (upd (upd H dx (exd dx [(fn, v)])) a (exo a C (some dx)))
theorem init_body {m q : PySem.Str} {j : Tok} (hN : X.N = [("self" : PySem.Str), q]) (v0 : Vis X.env.scope "self") (v1 : Vis X.env.scope q) (hg : Gl X n) (hm : X.mg n = some (.ref B)) (C : BaseC X.K B) (hdb : (n == ("__debug__" : PySem.Str)) = false := by decide) {pl : Sem Bool}
    (hc : eval (.Call (.Attribute (.Name n p1) "__init__" p2) [.Name "self" p3, .Constant (.str m) j p4] [] p5) X.env = (do
      let v ← eval (.Name n p1) X.env
      standAt p2.atName
      let (f, us) ← holding [v] (getMethod v "__init__" pl)
      callWith p5 f us (backTo p5 (starEach [.Name "self" p3, .Constant (.str m) j p4] X.env)) (backToKw p5 (keywordEach [] X.env))) := by rfl)
    (e1 : starEach [.Name "self" p3, .Constant (.str m) j p4] X.env = (false, eval (.Name "self" p3) X.env) :: starEach [.Constant (.str m) j p4] X.env := by rfl) (e2 : starEach [.Constant (.str m) j p4] X.env = (false, eval (.Constant (.str m) j p4) X.env) :: starEach [] X.env := by rfl)
    (hpl : (backTo p5 (starEach [.Constant (.str m) j p4] X.env)).any (·.1) = false := by rfl) (s1 : swapsWith (.Call (.Attribute (.Name n p1) "__init__" p2) [.Name "self" p3, .Constant (.str m) j p4] [] p5) none p6.line X.env = pure false := by rfl) (s2 : swapsWith (.Name q p9) (some (.Attribute (.Name "self" p7) fn p8)) p10.line X.env = pure false := by rfl)
    (q1 : (q == ("__debug__" : PySem.Str)) = false := by decide) (q2 : (q == ("__classdict__" : PySem.Str)) = false := by decide) :
    PSs X [.Expr (.Call (.Attribute (.Name n p1) "__init__" p2) [.Name "self" p3, .Constant (.str m) j p4] [] p5) p6, .Assign [.Attribute (.Name "self" p7) fn p8] (.Name q p9) p10] (tInit X.K fn) := by
  have g0 : X.N[0]? = some ("self" : PySem.Str) := by rw [hN]; rfl
  have g1 : X.N[1]? = some q := by rw [hN]; rfl
  have h1 := ps_expr (pe_cinit (pl := pl) (p1 := p1) (p2 := p2) (pos := p5) hg hm C (pa_cons (pe_var (pos := p3) g0 v0) (pa_cons (pe_str (x := m) (j := j) (pos := p4)) pa_nil e2) e1) hdb hc e1 hpl) s1
  have h2 := ps_ost (f := fn) (p' := p8) (pe_var (pos := p7) g0 v0) (pe_var (pos := p9) g1 v1 q1 q2) s2
  refine (pss_cons h1 (pss_one h2)).imp fun D σ H t => ?_
  obtain ⟨a, D0, v, rfl, T, hno, ha, q⟩ := t
  refine ⟨.ref a, rfl, a, D0, [.str m], rfl, by simp, T, ha, ?_⟩
  exact ⟨v, rfl, .ref a, rfl, a, D0, rfl, T, hno, .inl ⟨ha, q⟩⟩
end
/-- what such an __init__ keeps -/
def spI (K : PySem.W.Frag) (C : Addr) (fn : PySem.Str) : Sp := fun vs H Q _ => ∃ (a : Addr) (v : V), vs = [.ref a, v] ∧ H a = some (exo a C none) ∧ ∀ dx, H dx = none → dx ≠ a → Q .non (upd (upd H dx (exd dx [(fn, v)])) a (exo a C (some dx)))
/-- the class x at C, made with one value, its field fn -/
structure ExI (P : Program) (w : World) (K : PySem.W.Frag) (mg : PySem.Str → Option Value) (base : Heap) (C : Addr) (x fn : PySem.Str) : Prop where
  T : OexC K C
  hm : mg x = some (.ref C)
  ex : ∃ (fI : Addr) (fd : FuncData) (ps : List PySem.Str), PySem.W.findIn K (.ref C) "__init__" = some (some (.ref fI)) ∧ PySem.W.typeIn K (.ref fI) = some (.type "function") ∧ FnOk P w K mg base (L2.CX P w) 1 fI fd ps (spI K C fn) ∧ Binds K fd ps []
section
variable {P : Program} {w : World} {K : PySem.W.Frag} {mg : PySem.Str → Option Value} {base : Heap}
theorem init_fn {st : Stmt} {qual q fn : PySem.Str} {C fI : Addr} {fd : FuncData} (F : Fun K "__init__" qual st fI fd) (S : FnScope [("self" : PySem.Str), q] [("self" : PySem.Str), q] (defScope st)) (T : OexC K C) (hno : PySem.W.findIn K (.ref C) fn = some none)
    (hb : ∀ (cdv : Value) (A : Around) (outer : List PySem.Env) (s : Shared) (H : Hp) (E : XK), PSs (cxOf (L2.CX P w) P w K mg base [("self" : PySem.Str), q] qual (defScope st) fI cdv A outer s H E) (defBody st) (tInit K fn)) : FnOk P w K mg base (L2.CX P w) 1 fI fd [("self" : PySem.Str), q] (spI K C fn) := by
  refine F.okX S (fun vs H Q E h => ?_) fun cdv A outer s H vs Q E hr h => ⟨_, hb cdv A outer s H E, ?_⟩
  · obtain ⟨a, v, rfl, _⟩ := h
    rfl
  · obtain ⟨a, v, rfl, ha, h⟩ := h
    exact ⟨a, C, v, rfl, T, hno, ha, h⟩
end
section
variable {X : Cx} {cls : Cl} {W : WX}
theorem gs_raiseF (c : Nat) (f : List Nat) {d : PF.D} (gd : Grow d) : GrowS (sRaiseF c f d) := fun ρ h => growsS.onR (gd ρ h) fun w h1 _ l => l
theorem passes_no {P : Program} {w : World} : Passes (L2.CX P w) X (fun _ _ _ => False) := fun pins σ H s e s' _ h => by
  obtain ⟨_, _, _, _, _, _, _, _, _, _, _, _, z⟩ := h
  exact z.elim
theorem rs_raiseF (c : Nat) (f : List Nat) {x fn : PySem.Str} {e : Expr} {d : PF.D} {p pos pos' : Pos} (hc : X.calm = true) (tk : Takes X W) (F : ExI X.prog X.w X.K X.mg X.base (cls c) x fn) (hf : fn = sS f) (hr : Room 2 X.A) (hg : Gl X x) (he : RE X cls W e d) (hdb : (x == ("__debug__" : PySem.Str)) = false := by decide)
    (e1 : starEach [e] X.env = (false, eval e X.env) :: starEach [] X.env := by rfl) (e2 : (backTo pos (starEach [] X.env)).any (·.1) = false := by rfl) :
    RS X cls W (.Raise (some (.Call (.Name x p) [e] [] pos)) none pos') (sRaiseF c f d) := by
  obtain ⟨fI, fd, ps, h1, h2, h3, h4⟩ := F.ex
  refine ⟨(ps_raise hc tk (pmk_oex F.T h1 h2 h3 hr h4 .nil passes_no hg F.hm (pa_cons he.pe pa_nil e1) hdb e1 e2)).imp fun D σ H t => t.ok fun φ h ρ x p => ?_, gs_raiseF c f he.g⟩
  refine x.firstS (he.g ρ h) p fun v H1 φ1 w1 h1 g1 x1 p1 => ?_
  refine ⟨by simp, fun a ha => ⟨a, v, rfl, upd_same, fun dx hdx hne => ⟨rfl, dx, [(fn, v)], ?_, ?_, ?_, ?_⟩⟩⟩
  · exact upd_same
  · rw [upd_ne hne, upd_same]
  · rw [upd_ne hne] at hdx
    exact hdx
  · rw [upd_ne hne] at hdx
    have eH : upd (del (upd (upd (upd H1 a (exo a (cls c) none)) dx (exd dx [(fn, v)])) a (exo a (cls c) (some dx))) a) dx (.xd [(fn, v)]) = upd H1 dx (.xd [(fn, v)]) := by
      funext b
      by_cases hb : b = dx
      · rw [hb, upd_same, upd_same]
      · rw [upd_ne hb, upd_ne hb]
        by_cases hba : b = a
        · rw [hba, del_same, ha]
        · rw [del_ne hba, upd_ne hba, upd_ne hb, upd_ne hba]
    rw [eH]
    have k := keep_new (o := .xd [(fn, v)]) hdx
    exact p1 φ1 (some dx) σ _ (Ext.refl _ _) k ⟨x1.C.other hdx, x1.S.mono (Ext.refl _ _) (Nat.le_refl _) k⟩ ⟨dx, v, rfl, by rw [upd_same, hf], g1.r.mono (Ext.refl _ _) (Nat.le_refl _) k⟩
end
section
variable {X : Cx} {cls : Cl} {W : WX}
/-! ### xs[i] op= e -/
theorem get_l : PGet X (fun o i H Q => ∃ (p : Addr) (xs : List V) (j : Int) (v : V), o = .ref p ∧ i = .int j ∧ 0 ≤ j ∧ H p = some (.lst xs) ∧ xs[j.toNat]? = some v ∧ Q v H) := by
  rintro pins s σ H o i ov iv Q I ro ri ⟨p, xs, j, v, rfl, rfl, h0, hp, hv, q⟩
  cases ro
  obtain ⟨t, rfl⟩ := ri
  obtain ⟨its, r, pl, hz⟩ := I.list (.of hp)
  obtain ⟨w, ew, rw'⟩ := r.get hv
  have hl := (List.getElem?_eq_some_iff.mp hv).1
  have hn := line63
  exact wpAny_getItem_list (Q := EP X pins σ Q) pl.isList h0 (by omega) (by simpa using ew) ⟨v, H, I, rw', q⟩
theorem gs_augX {o : PF.W → PF.W → Hs → Res PF.W} {da db de : PF.D} (go : GrO o) (ga : Grow da) (gb : Grow db) (ge : Grow de) : GrowS (sAugX o da db de) := fun ρ h =>
  growsS.onR (ga ρ h) fun x h1 _ l1 => growsS.onR ((gb ρ h1).le l1) fun y h2 _ l2 => by
    split
    · exact growsS.onR ((ge ρ h2).le l2) fun v h4 _ l4 => growsS.onR ((go _ v h4).le l4) fun z h5 _ l5 => by
        split
        · rename_i h6 e6
          show h.length ≤ h6.length
          rw [stL_len e6]
          exact l5
        · trivial
    · trivial
theorem rs_augX (hu : X.A.units + 64 < cLine) {op : Operator} {f : Int → Int → Int} {o : PF.W → PF.W → Hs → Res PF.W} {a b e : Expr} {pos tpos : Pos} {da db de : PF.D} (ha : RE X cls W a da) (hb : RE X cls W b db) (he : RE X cls W e de) (hI : PIp X op (ipI f)) (go : GrO o)
    (ho : ∀ (w u : PF.W) (h : Hs), o w u h = .stuck ∨ ∃ i j, w = .int i ∧ u = .int j ∧ o w u h = .ok (.int (f i j)) h)
    (hs : ∀ ov iv new, augStore b ov iv new = (do holding [new, ov, iv] (setItem ov iv new); release [new, ov, iv] []; pure .next) := by intros; rfl) : RS X cls W (.AugAssign (.Subscript a b tpos) op e pos) (sAugX o da db de) :=
  ⟨(ps_augS ha.pe hb.pe get_l he.pe hI (set_s hu (cls := cls)) hs).imp fun D σ H t => t.ok fun φ h ρ x p => x.firstS (ha.g ρ h) p fun v H1 φ1 w1 h1 g1 x1 p1 => x1.firstS (hb.g ρ h1) p1 fun u H2 φ2 w2 h2 g2 x2 p2 => by
    split at p2
    · rename_i z ez
      unfold ixL at ez
      split at ez
      · rename_i i k
        split at ez
        · rename_i ws ei
          split at ez
          · rename_i hk
            have r1 : VR X.K φ2 h2.length H2 (.ref i) v := VR.mono g2.e g2.l g2.k g1.r
            have r2 : VR X.K φ2 h2.length H2 (.int k) u := g2.r
            cases r2
            cases r1 with
            | ref hi =>
              obtain ⟨vs, hv1, hv2⟩ := g2.C.cell _ _ ei
              obtain ⟨y, hy, ry⟩ := hv2.get ez
              refine ⟨_, vs, k, y, rfl, rfl, hk, hv1, hy, ?_⟩
              refine x2.firstS (he.g ρ h2) p2 fun q H4 φ4 w4 h4 g4 x4 p4 => ?_
              rcases ho z w4 h4 with e4 | ⟨m, n, rfl, rfl, e4⟩
              · rw [e4] at p4
                exact p4.elim
              · rw [e4] at p4
                cases ry
                have r4 : VR X.K φ4 h4.length H4 (.int n) q := g4.r
                cases r4
                refine ⟨m, n, rfl, rfl, ?_⟩
                have p4 : PostS X.K cls φ4 h4.length H4 W D (match stL (.ref i) (.int k) (.int (f m n)) h4 with | some h6 => .nx ρ h6 | none => .stuck) := p4
                split at p4
                · rename_i h6 e6
                  refine ⟨φ4, h4, .ref i, .int k, .int (f m n), g4.C, ?_, .int k, .int _, h6, e6, fun H' kk C' => p4 φ4 σ H' (Ext.refl _ _) kk ⟨C', ?_⟩⟩
                  · exact VR.mono g4.e g4.l g4.k (.ref hi)
                  · rw [stL_len e6]
                    exact x4.S.mono (Ext.refl _ _) (Nat.le_refl _) kk
                · exact p4.elim
          · cases ez
        · cases ez
      · cases ez
    · exact p2.elim, gs_augX go ha.g hb.g he.g⟩
end
theorem xf_of {K : PySem.W.Frag} {D : Addr} (C : ExcC K D) : XfC K D := ⟨C.hg, C.hk, C.hs, C.hd⟩
end PF
namespace PF
open PySem PySem.Spec PyProof.Rows L2
/-! ### sorted(..) of pairs of texts -/
abbrev PrA := Pr × Addr
def keyPr (p : Pr) : List (Int ⊕ List Nat) := [.inr p.1, .inr p.2]
def allT : Nat → Bool := fun _ => true
theorem key_le {a b : Pr} (h : lexLt itemOrd (keyPr b) (keyPr a) = false) : lePr a b = true := by
  have h : (decide (b.1 < a.1) || (!decide (a.1 < b.1) && (decide (b.2 < a.2) || (!decide (a.2 < b.2) && false)))) = false := h
  refine lePr_of (fun z => ?_) ?_
  · rw [decide_eq_true z] at h; simp at h
  · by_cases y : a.1 < b.1
    · exact .inl y
    · refine .inr fun z => ?_
      rw [decide_eq_true z, decide_eq_false y] at h; simp at h
/-- pairs of texts at hand -/
theorem pr_at {X : Cx} {pins : List (Addr × Obj)} {σ : L2.St} {H : Hp} {s : Shared} (I : L2.Inv X pins σ H s) {t : PrA} (h : SqT X.K H t.2 [.str (sS t.1.1), .str (sS t.1.2)]) :
    (∃ f, TupOf s.heap allT (.ref t.2) f) ∧ G.tupKeyC s.heap allT (.ref t.2) = some (keyPr t.1) := by
  obtain ⟨its, rv, ⟨o, e, c, n, d⟩, _⟩ := I.tuple h
  obtain ⟨u, v, rfl, ⟨t1, rfl⟩, ⟨t2, rfl⟩⟩ := vals2 rv
  refine ⟨⟨_, t.2, o, _, n, rfl, e, c, d, rfl, fun z => (by cases z), fun _ => ⟨_, _, rfl⟩⟩, ?_⟩
  have k1 : G.isTupObj s.heap (.ref t.2) = true := by simp [G.isTupObj, e, c]
  unfold G.tupKeyC
  rw [if_pos k1]
  simp [tupKey, e, d, tupItems, allT, keyPr, sS]
theorem refs_of : ∀ (ts : List PrA) (us : List Value), Vals (ts.map fun t => V.ref t.2) us → us = ts.map fun t => Value.ref t.2
  | [], us, r => by cases r; rfl
  | t :: ts, us, r => by
    cases r with
    | cons r1 r2 =>
      have e1 : _ = Value.ref t.2 := r1
      rw [refs_of ts _ r2, e1]; rfl
theorem vals_refs : ∀ ts : List PrA, Vals (ts.map fun t => V.ref t.2) (ts.map fun t => Value.ref t.2)
  | [] => .nil
  | t :: ts => .cons rfl (vals_refs ts)
theorem tups_of {h : Heap} : ∀ ts : List PrA, (∀ t, t ∈ ts → ∃ f, TupOf h allT (.ref t.2) f) → ∃ fs, TupsOf h allT (ts.map fun t => Value.ref t.2) fs
  | [], _ => ⟨[], .nil⟩
  | t :: ts, k => by
    obtain ⟨f, hf⟩ := k t (List.mem_cons_self ..)
    obtain ⟨fs, hs⟩ := tups_of ts fun u hu => k u (List.mem_cons_of_mem _ hu)
    exact ⟨f :: fs, .cons hf hs⟩
theorem zip_self : ∀ ts : List PrA, (ts.map fun t => Value.ref t.2).zip (ts.map fun t => Value.ref t.2) = ts.map fun t => ((Value.ref t.2, Value.ref t.2) : Keyed)
  | [] => rfl
  | t :: ts => by rw [List.map_cons, List.map_cons, List.zip_cons_cons, zip_self ts]
section
variable {X : Cx}
theorem cr_sortPr : CallR X (.builtin "sorted") (fun xs H Q => ∃ (a : Addr) (ts : List PrA), xs = [.ref a] ∧ SqL X.K H a (ts.map fun t => V.ref t.2) ∧ (∀ t, t ∈ ts → SqT X.K H t.2 [.str (sS t.1.1), .str (sS t.1.2)]) ∧
    ∀ (ts' : List PrA) q, ts'.Perm ts → (ts'.map Prod.fst).Pairwise (fun a b => lePr a b = true) → H q = none → Q (.ref q) (upd H q (.lst (ts'.map fun t => V.ref t.2)))) := by
  intro pins s σ H xs us Q I r h
  obtain ⟨a, ts, rfl, hs, ht, q⟩ := h
  obtain ⟨its, rv, hl, hz⟩ := I.list hs
  obtain rfl := Vals.ref1 r
  have ei := refs_of ts its rv
  have keys : ∀ t, t ∈ ts → _ := fun t h => pr_at I (ht t h)
  obtain ⟨fs, hf⟩ := tups_of (h := s.heap) ts fun t h => (keys t h).1
  rw [List.length_map] at hz
  have li : its.length ≤ sizeLine := by rw [ei, List.length_map]; exact hz
  refine G.sorted_tups (vs := its) (fs := fs) (shape := allT) hl.isList (by rw [ei]; exact hf) (fun v hv => ?_) li fun st' p1 p2 _ => ?_
  · rw [ei] at hv
    obtain ⟨t, h, rfl⟩ := List.mem_map.mp hv
    exact ⟨_, (keys t h).2⟩
  · obtain ⟨arr, harr⟩ : ∃ arr, arr = arrOf st' := ⟨_, rfl⟩
    rw [← harr] at p1 p2 ⊢
    have el : (pairsOf its).toList = ts.map fun t => ((Value.ref t.2, Value.ref t.2) : Keyed) := by
      rw [pairsOf_toList, ei]
      exact zip_self ts
    obtain ⟨ts', pm, e⟩ := perm_map_inv (Array.perm_iff_toList_perm.mp p1) ts el
    have eo : (arr.map (·.2)).toList = ts'.map fun t => Value.ref t.2 := by
      rw [Array.toList_map, e, List.map_map]; rfl
    have sz : (pairsOf its).size = ts'.length := by rw [← Array.length_toList, el, List.length_map, pm.length_eq]
    have pw : (ts'.map Prod.fst).Pairwise (fun a b => lePr a b = true) := by
      rw [List.pairwise_map, List.pairwise_iff_getElem]
      intro i j hi hj hij
      have k := p2 i j (Nat.le_of_lt hij) (by rw [sz]; exact hj)
      have kk : ∀ (m : Nat) (hm : m < ts'.length), KK (G.tupKindC s.heap allT) arr m = keyPr ts'[m].1 := fun m hm => by
        have e1 : arr[m]? = some (.ref ts'[m].2, .ref ts'[m].2) := by
          rw [← Array.getElem?_toList, e, List.getElem?_map, List.getElem?_eq_getElem hm]; rfl
        unfold KK
        rw [e1]
        dsimp only
        rw [(keys ts'[m] (pm.mem_iff.mp (List.getElem_mem hm))).2]
        rfl
      rw [kk i hi, kk j hj] at k
      exact key_le k
    obtain ⟨ep, he'⟩ := PyProof.Rows.sortedAll_at s.heap its (arr.map (·.2))
    have hlen : (ts'.map fun t => V.ref t.2).length ≤ sizeLine := by rw [List.length_map, pm.length_eq]; exact hz
    have vo : Vals (ts'.map fun t => V.ref t.2) (arr.map (·.2)).toList := by rw [eo]; exact vals_refs ts'
    exact ⟨.ref _, upd H (s.heap.objs.size + 1) (.lst (ts'.map fun t => V.ref t.2)), I.laid (t' := s.toks) (fun _ _ => PyProof.Rows.sortedAll_old) (Nat.le_succ _) ⟨hlen, _, ep, vo, he'⟩, rfl, q ts' _ pm pw (I.hok.fresh (Nat.le_succ _))⟩
end
end PF
namespace PF
open PySem PySem.Spec PyProof.Rows L2
/-! ### sorted(..), texts -/
theorem rising_pw : ∀ (zs : List (List Nat)) (p : List Nat), risingS (sS p) (zs.map sS) = true → (p :: zs).Pairwise (· ≤ ·)
  | [], p, _ => List.pairwise_singleton _ _
  | z :: zs, p, e => by
    rw [List.map_cons, risingS, Bool.and_eq_true] at e
    have ih := rising_pw zs z e.2
    have hz : p ≤ z := by
      have e1 := e.1
      rw [ltCps_eq] at e1
      have e2 : (sS z).cps.toList = z := by simp [sS]
      have e3 : (sS p).cps.toList = p := by simp [sS]
      rw [e2, e3] at e1
      simpa using e1
    refine List.pairwise_cons.mpr ⟨fun a ha => ?_, ih⟩
    rcases List.mem_cons.mp ha with rfl | ha
    · exact hz
    · exact List.le_trans hz ((List.pairwise_cons.mp ih).1 a ha)
theorem sorted_pw (zs : List (List Nat)) (e : sortedS (zs.map sS) = true) : zs.Pairwise (· ≤ ·) := by
  cases zs with
  | nil => exact List.Pairwise.nil
  | cons z zs => exact rising_pw zs z e
theorem sS_list (y : PySem.Str) : sS y.cps.toList = y := by
  cases y with
  | mk c => simp [sS]
theorem sorted_is {ss : List (List Nat)} {ys : List PySem.Str} (hp : ys.Perm (ss.map sS)) (hs : sortedS ys = true) : ys = (sortS ss).map sS := by
  have e1 : (ys.map fun y => y.cps.toList).map sS = ys := by
    rw [List.map_map]
    exact (List.map_congr_left (fun y _ => sS_list y)).trans (List.map_id _)
  have e2 : (ys.map fun y => y.cps.toList).Perm ss := by
    have := hp.map fun y : PySem.Str => y.cps.toList
    rw [List.map_map] at this
    have e3 : ss.map ((fun y : PySem.Str => y.cps.toList) ∘ sS) = ss := (List.map_congr_left (fun y _ => by simp [sS])).trans (List.map_id _)
    rwa [e3] at this
  rw [← e1] at hs
  rw [← e1, sortS_of e2 (sorted_pw _ hs)]
theorem strsOf_at {K : PySem.W.Frag} {φ : Phi} {n : Nat} {H : Hp} : ∀ {ws : List PF.W} {vs : List V} {ss : List (List Nat)}, VRs K φ n H ws vs → strsOf ws = some ss → vs = (ss.map sS).map V.str ∧ ∀ s, s ∈ ss → okS s
  | [], _, _, .nil, e => by cases e; exact ⟨rfl, fun _ h => by cases h⟩
  | .str i :: ws, _, ss, .cons (.str _ ok) t, e => by
    rw [strsOf] at e
    cases e1 : strsOf ws with
    | none => rw [e1] at e; cases e
    | some r =>
      rw [e1] at e
      cases e
      obtain ⟨h1, h2⟩ := strsOf_at t e1
      refine ⟨by rw [h1]; rfl, fun s hs => ?_⟩
      rcases List.mem_cons.mp hs with rfl | hs
      · exact ok
      · exact h2 s hs
  | .int _ :: _, _, _, .cons _ _, e => by cases e
  | .bl _ :: _, _, _, .cons _ _, e => by cases e
  | .non :: _, _, _, .cons _ _, e => by cases e
  | .ref _ :: _, _, _, .cons _ _, e => by cases e
  | .err :: _, _, _, .cons _ _, e => by cases e
  | .errF _ _ :: _, _, _, .cons _ _, e => by cases e
  | .tup _ :: _, _, _, .cons _ _, e => by cases e
  | .fl _ :: _, _, _, .cons _ _, e => by cases e
theorem strs_vr {K : PySem.W.Frag} {φ : Phi} {n : Nat} {H : Hp} : ∀ ss : List (List Nat), (∀ s, s ∈ ss → okS s) → VRs K φ n H (ss.map PF.W.str) ((ss.map sS).map V.str)
  | [], _ => .nil
  | s :: ss, h => .cons (.str s (h s (List.mem_cons_self ..))) (strs_vr ss fun t ht => h t (List.mem_cons_of_mem _ ht))
theorem keysS_at {K : PySem.W.Frag} {φ : Phi} {n : Nat} {H : Hp} : ∀ {kvs : List (Key × PF.W)} {ks : List (L2.Key × V)} {ss : List (List Nat)}, KR K φ n H kvs ks → keysS kvs = some ss → ks.map (·.1) = (ss.map sS).map Sum.inr ∧ ∀ s, s ∈ ss → okS s
  | [], _, _, .nil, e => by cases e; exact ⟨rfl, fun _ h => by cases h⟩
  | (.inr s0, w) :: kvs, _, ss, .cons (b := q) r t, e => by
    rw [keysS] at e
    cases e1 : keysS kvs with
    | none => rw [e1] at e; cases e
    | some r' =>
      rw [e1] at e
      cases e
      obtain ⟨h1, h2⟩ := keysS_at t e1
      refine ⟨by rw [List.map_cons, h1, r.1.1]; rfl, fun s hs => ?_⟩
      rcases List.mem_cons.mp hs with rfl | hs
      · exact r.1.2
      · exact h2 s hs
  | (.inl _, _) :: _, _, _, .cons _ _, e => by cases e
theorem keysI_at {K : PySem.W.Frag} {φ : Phi} {n : Nat} {H : Hp} : ∀ {kvs : List (Key × PF.W)} {ks : List (L2.Key × V)} {ss : List Int}, KR K φ n H kvs ks → keysI kvs = some ss → ks.map (·.1) = ss.map Sum.inl
  | [], _, _, .nil, e => by cases e; rfl
  | (.inl s0, w) :: kvs, _, ss, .cons (b := q) r t, e => by
    rw [keysI] at e
    cases e1 : keysI kvs with
    | none => rw [e1] at e; cases e
    | some r' =>
      rw [e1] at e
      cases e
      rw [List.map_cons, keysI_at t e1, r.1.1]; rfl
  | (.inr _, _) :: _, _, _, .cons _ _, e => by cases e
theorem asPr_at {w : PF.W} {p : Pr} (e : asPr w = some p) : w = .tup [.str p.1, .str p.2] := by
  unfold asPr at e
  split at e
  · cases e; rfl
  · cases e
theorem prsOf_cons {w : PF.W} {ws : List PF.W} {ps : List Pr} (e : prsOf (w :: ws) = some ps) : ∃ a b r, w = .tup [.str a, .str b] ∧ prsOf ws = some r ∧ ps = (a, b) :: r := by
  rw [prsOf] at e
  cases e1 : asPr w with
  | none => rw [e1] at e; cases e
  | some p =>
    rw [e1, Option.bind_some] at e
    cases e2 : prsOf ws with
    | none => rw [e2] at e; cases e
    | some r => rw [e2] at e; cases e; exact ⟨p.1, p.2, r, asPr_at e1, rfl, rfl⟩
theorem pr_one {K : PySem.W.Frag} {φ : Phi} {n : Nat} {H : Hp} {a b : List Nat} {v : V} (r : VR K φ n H (.tup [.str a, .str b]) v) : ∃ p : Addr, v = .ref p ∧ SqT K H p [.str (sS a), .str (sS b)] ∧ okS a ∧ okS b := by
  cases r with
  | tup q t =>
    cases t with
    | cons r1 t =>
      cases t with
      | cons r2 t =>
        cases t
        cases r1 with
        | str _ oa =>
          cases r2 with
          | str _ ob => exact ⟨_, rfl, q, oa, ob⟩
theorem prs_at {K : PySem.W.Frag} {φ : Phi} {n : Nat} {H : Hp} : ∀ (ws : List PF.W) {vs : List V} {ps : List Pr}, VRs K φ n H ws vs → prsOf ws = some ps →
    ∃ ts : List PrA, vs = (ts.map fun t => V.ref t.2) ∧ ps = ts.map Prod.fst ∧ ∀ t, t ∈ ts → SqT K H t.2 [.str (sS t.1.1), .str (sS t.1.2)] ∧ okS t.1.1 ∧ okS t.1.2 := by
  intro ws
  induction ws with
  | nil =>
    intro vs ps r e
    cases r
    cases e
    exact ⟨[], rfl, rfl, fun _ h => by cases h⟩
  | cons w ws ih =>
    intro vs ps r e
    obtain ⟨a, b, qs, rfl, e1, rfl⟩ := prsOf_cons e
    cases r with
    | cons r1 t =>
      obtain ⟨p, rfl, q, oa, ob⟩ := pr_one r1
      obtain ⟨ts, rfl, rfl, h⟩ := ih t e1
      refine ⟨((a, b), p) :: ts, rfl, rfl, fun u hu => ?_⟩
      rcases List.mem_cons.mp hu with rfl | hu
      · exact ⟨q, oa, ob⟩
      · exact h u hu
theorem prs_vr {K : PySem.W.Frag} {φ : Phi} {n : Nat} {H : Hp} : ∀ ts : List PrA, (∀ t, t ∈ ts → SqT K H t.2 [.str (sS t.1.1), .str (sS t.1.2)] ∧ okS t.1.1 ∧ okS t.1.2) → VRs K φ n H (ts.map (prW ∘ Prod.fst)) (ts.map fun t => V.ref t.2)
  | [], _ => .nil
  | t :: ts, h => .cons (.tup (h t (List.mem_cons_self ..)).1 (.cons (.str _ (h t (List.mem_cons_self ..)).2.1) (.cons (.str _ (h t (List.mem_cons_self ..)).2.2) .nil))) (prs_vr ts fun u hu => h u (List.mem_cons_of_mem _ hu))
theorem ints_vrU {K : PySem.W.Frag} {φ : Phi} {n : Nat} {H : Hp} : ∀ is : List Int, VRs K φ n H (is.map PF.W.int) (is.map V.int)
  | [] => .nil
  | i :: is => .cons (.int i) (ints_vrU is)
section
variable {X : Cx} {cls : Cl} {W : WX}
/-- sorted(texts), however many -/
theorem cr_sortS : CallR X (.builtin "sorted") (fun xs H Q => ∃ (a : Addr) (ss : List PySem.Str), xs = [.ref a] ∧ SqL X.K H a (ss.map V.str) ∧ ∀ (ys : List PySem.Str) q, ys.Perm ss → sortedS ys = true → H q = none → Q (.ref q) (upd H q (.lst (ys.map V.str)))) := by
  intro pins s σ H xs us Q I r h
  obtain ⟨a, ss, rfl, hs, q⟩ := h
  obtain ⟨its, rv, hl, hz⟩ := I.list hs
  obtain rfl := Vals.ref1 r
  have hS := rv.strs
  refine sortedKAny strKind_oneLt hl.isList hS.keysOf (fun _ _ _ e => keyKind_strs (by rw [← e]; exact hS)) (by rw [hS.len_eq]; simpa using hz) fun st' p1 p2 => ?_
  obtain ⟨ys, g1, g2, g3⟩ := sorted_out_str hS p1 p2
  obtain ⟨ep, he'⟩ := PyProof.Rows.sortedAll_at s.heap its ((arrOf st').map (·.2))
  have hlen : (ys.map V.str).length ≤ sizeLine := by
    have := hS.len_eq
    rw [List.length_map, g2.length_eq]
    simp at hz
    omega
  exact ⟨.ref _, upd H (s.heap.objs.size + 1) (.lst (ys.map V.str)), I.laid (t' := s.toks) (fun _ _ => PyProof.Rows.sortedAll_old) (Nat.le_succ _) ⟨hlen, _, ep, vals_of_strs g1, he'⟩, rfl, q ys _ g2 g3 (I.hok.fresh (Nat.le_succ _))⟩
theorem c_sorted (hc : X.calm = true) : CallR X (.builtin "sorted") (rC X.K cls bSorted) := by
  rintro pins s σ H xs us Q I r ⟨φ, h, ws, E, C, rs, p⟩
  unfold bSorted at p
  split at p
  · cases rs with
    | cons r1 rs =>
      cases rs
      split at p
      · rename_i kvs ed
        split at p
        · rename_i ss es
          split at p
          · rename_i hl
            obtain ⟨a, ks, rfl, hk1, hk2⟩ := dctOf_at C r1 ed
            obtain ⟨e1, ok⟩ := keysS_at hk2 es
            refine call_sortedD hc pins s σ H _ us Q I r ⟨a, ks, ss.map sS, rfl, .inl hk1, e1, by rw [List.length_map]; exact hl, fun ys q hp hs hq => ?_⟩
            rw [sorted_is hp hs]
            exact post_lst C (strs_vr _ fun t ht => ok t ((sortS_perm ss).mem_iff.mp ht)) p q hq
          · exact p.elim
        · split at p
          · rename_i is es
            split at p
            · rename_i hl
              obtain ⟨a, ks, rfl, hk1, hk2⟩ := dctOf_at C r1 ed
              refine call_sortedDI hc pins s σ H _ us Q I r ⟨a, ks, is, rfl, .inl hk1, keysI_at hk2 es, hl, fun ys q hp hs hq => ?_⟩
              rw [sortI_of hp hs]
              exact post_lst C (ints_vrU _) p q hq
            · exact p.elim
          · exact p.elim
      · split at p
        · rename_i ss es
          cases e1 : lstOf _ h with
          | none => rw [e1] at es; cases es
          | some zs =>
            rw [e1] at es
            obtain ⟨a, vs, rfl, hs, hr⟩ := lstOf_at C r1 e1
            obtain ⟨e2, ok⟩ := strsOf_at hr es
            subst e2
            refine cr_sortS pins s σ H _ us Q I r ⟨a, ss.map sS, rfl, hs, fun ys q hp hss hq => ?_⟩
            rw [sorted_is hp hss]
            exact post_lst C (strs_vr _ fun t ht => ok t ((sortS_perm ss).mem_iff.mp ht)) p q hq
        · split at p
          · rename_i ps es
            cases e1 : lstOf _ h with
            | none => rw [e1] at es; cases es
            | some zs =>
              rw [e1] at es
              obtain ⟨a, vs, rfl, hs, hr⟩ := lstOf_at C r1 e1
              obtain ⟨ts, rfl, e2, ht⟩ := prs_at _ hr es
              subst e2
              refine cr_sortPr pins s σ H _ us Q I r ⟨a, ts, rfl, hs, fun t h => (ht t h).1, fun ts' q pm pw hq => ?_⟩
              rw [← sortP_of (pm.map Prod.fst) pw, List.map_map] at p
              exact post_lst C (prs_vr ts' fun t h => ht t (pm.mem_iff.mp h)) p q hq
          · exact p.elim
  · exact p.elim
theorem gc_sorted : GrC bSorted := fun ws h => by
  unfold bSorted
  split
  · split
    · split
      · split
        · exact newL_grows _ _
        · trivial
      · split
        · split
          · exact newL_grows _ _
          · trivial
        · trivial
    · split
      · exact newL_grows _ _
      · split
        · exact newL_grows _ _
        · trivial
  · trivial
/-! ### max(l, default=d) -/
theorem maxOf_max : ∀ (is : List Int) (i : Int), PySem.W.maxOf i is = is.foldl max i
  | [], _ => rfl
  | j :: is, i => by
    show PySem.W.maxOf (if PySem.W.DatumOrd.lt i j = true then j else i) is = is.foldl max (max i j)
    have e : (if PySem.W.DatumOrd.lt i j = true then j else i) = max i j := by
      show (if decide (i < j) = true then j else i) = max i j
      by_cases h : i < j
      · simp [h]; omega
      · simp [h]; omega
    rw [e]
    exact maxOf_max is (max i j)
theorem dp_ints {K : PySem.W.Frag} {H : Hp} : ∀ ns : List Int, DpAll K H (ns.map V.int) (ns.map PyData.int)
  | [] => .nil
  | i :: ns => .cons (.int i) (dp_ints ns)
theorem call_maxDef (hc : X.calm = true) (hu : X.A.units + 64 < cLine) : CallRK X (.builtin "max") [Str.ofString "default"] (fun xs zs H Q => ∃ (a : Addr) (ns : List Int) (d : Int), xs = [.ref a] ∧ zs = [.int d] ∧ SqL X.K H a (ns.map V.int) ∧ (ns = [] → Q (.int d) H) ∧ ∀ i is, ns = i :: is → Q (.int (maxI (i :: is))) H) := by
  intro pins s σ H xs zs us ws Q I r rz h
  obtain ⟨a, ns, d, rfl, rfl, hs, q0, q1⟩ := h
  obtain rfl := Vals.ref1 r
  obtain ⟨u, rfl, t, rfl⟩ := vals1 rz
  obtain ⟨its, rv, hl, _⟩ := I.list hs
  have H1 : PySem.W.HoldAll s.heap its.toArray.toList ns := by
    obtain ⟨as, h1⟩ := Dp.readsAll I _ _ its (dp_ints ns) rv
    exact ⟨as, h1⟩
  refine PySem.W.max_list_datum_default (α := Int) (I.ok.hd hc) hl.isList H1 (by show X.A.units + 1 + 0 < cLine; omega) (fun e h' tk hk => ⟨.int d, H, I.kept hk, ⟨t, rfl⟩, q0 e⟩) fun y ys i v h' tk e hi hv hk => ?_
  obtain ⟨bs, r⟩ := hv
  have r : Reads h' v (.int (PySem.W.maxOf y ys)) bs := r
  rw [maxOf_max] at r
  cases r with
  | int _ t => exact ⟨.int _, H, I.kept hk, ⟨t, rfl⟩, q1 y ys e⟩
theorem g_maxD : GrO oMaxD := fun w u h => by
  unfold oMaxD
  split
  · split <;> first | exact Nat.le_refl _ | trivial
  · trivial
theorem re_maxD {p pos kp : Pos} {e d : Expr} {da db : PF.D} (hc : X.calm = true) (hu : X.A.units + 64 < cLine) (hg : Gl X "max") (hm : X.mg "max" = none) (hv : bootBuiltins "max" = some (.builtin "max")) (ha : RE X cls W e da) (hb : RE X cls W d db)
    (hs : starEach [e] X.env = (false, eval e X.env) :: starEach [] X.env := by rfl)
    (he : backTo pos (starEach [e] X.env) = (false, eval e X.env) :: backTo pos (starEach [] X.env) := by rfl) (hpl : (backTo pos (starEach [e] X.env)).any (·.1) = false := by rfl) : RE X cls W (.Call (.Name "max" p) [e] [⟨some "default", d, kp⟩] pos) (dBin oMaxD da db) :=
  ⟨(pe_callBK (call_maxDef hc hu) hg hm hv (pa_cons ha.pe pa_nil hs) (pk_cons hb.pe pk_nil) (by decide) (by decide) he hpl).imp fun σ H Q t =>
    (t.bin ha.g hb.g).mono fun x H1 t2 => t2.mono fun y H2 q => by
      obtain ⟨φ, h, w1, w2, E, C, r1, r2, p⟩ := q
      unfold oMaxD at p
      split at p
      · cases r2
        split at p
        · rename_i i is e1
          obtain ⟨a, rfl, hs⟩ := ints_at C r1 e1
          exact ⟨a, _, _, rfl, rfl, hs, fun z => (by cases z), fun j js z => (by cases z; exact rO_ok C p (.int _))⟩
        · rename_i e1
          obtain ⟨a, rfl, hs⟩ := ints_at C r1 e1
          exact ⟨a, _, _, rfl, rfl, hs, fun _ => rO_ok C p (.int _), fun j js z => (by cases z)⟩
        · exact p.elim
      · exact p.elim, grow_bin g_maxD ha.g hb.g⟩
/-! ### a, b = x, y -/
theorem grow_par {i j : Nat} {as : As} (ga : Grow as) : GrowS (sPar i j as) := fun ρ h => growsS.onR (ga ρ h) fun ws h1 _ l => by
  split
  · split
    · exact l
    · trivial
  · trivial
theorem rs_par (i j : Nat) {x y : PySem.Str} {a b : Expr} {as : As} {px py pt pos : Pos} {kt k2 pt2} (hc : X.calm = true) (hN : X.N.Nodup) (hi : X.N[i]? = some x) (hj : X.N[j]? = some y) (hij : i ≠ j)
    (hx : X.env.scope.names.lookup x = some .local) (hy : X.env.scope.names.lookup y = some .local) (ha : RA X cls W [a, b] as)
    (hw : swappedStores [.Tuple [.Name x px, .Name y py] kt pt] (.Tuple [a, b] k2 pt2) X.env = pure (some [x, y]) := by rfl)
    (hs : swapsWithSole [.Tuple [.Name x px, .Name y py] kt pt] (.Tuple [a, b] k2 pt2) pos.line X.env = pure false := by rfl) :
    RS X cls W (.Assign [.Tuple [.Name x px, .Name y py] kt pt] (.Tuple [a, b] k2 pt2) pos) (sPar i j as) :=
  ⟨(ps_par hc hN hi hj hij hx hy ha.pa hw hs).imp fun D σ H t => t.ok fun φ h ρ x p => x.firstS (ha.g ρ h) p fun vs H1 φ1 ws h1 g1 x1 p1 => by
    have r : VRs X.K φ1 h1.length H1 ws vs := g1.r
    split at p1
    · cases r with
      | cons r0 rr =>
        cases rr with
        | cons r1 r2 =>
          cases r2
          split at p1
          · exact ⟨_, _, rfl, p1 φ1 _ H1 (Ext.refl _ _) (Keep.refl _) ⟨g1.C, (x1.S.set r0).set r1⟩⟩
          · exact p1.elim
    · exact p1.elim, grow_par ha.g⟩
/-! ### startswith -/
theorem starts_eq (a b : List Nat) : Txt.startswith (sS a) (sS b) = (decide (b.length ≤ a.length) && (a.take b.length == b)) := by
  unfold Txt.startswith
  rw [PySem.StrLaws.subAt_eq, sS_len, sS_len]
  simp [sS]
theorem m_starts : MtR X "str.startswith" (rM X.K cls mStarts) := by
  rintro pins s σ H x xs v us Q I rx rs ⟨φ, h, w, ws, E, C, r, t, p⟩
  unfold mStarts at p
  split at p
  · cases r with
    | str _ _ =>
      cases t with
      | cons t1 tt =>
        cases tt
        cases t1
        exact mt_startswith pins s σ H _ _ v us Q I rx rs ⟨_, _, rfl, rfl, by rw [starts_eq]; exact rO_ok C p (.bl _)⟩
  · exact p.elim
theorem gm_starts : GrM mStarts := fun w ws h => by
  unfold mStarts
  split <;> first | exact Nat.le_refl _ | trivial
/-! ### max(l), min(l) -/
theorem foldl_max_ge : ∀ (is : List Int) (i : Int), i ≤ is.foldl max i ∧ (∀ j, j ∈ is → j ≤ is.foldl max i) ∧ (is.foldl max i = i ∨ is.foldl max i ∈ is)
  | [], i => ⟨Int.le_refl _, fun _ h => (by cases h), .inl rfl⟩
  | k :: is, i => by
    obtain ⟨h1, h2, h3⟩ := foldl_max_ge is (max i k)
    rw [List.foldl_cons]
    refine ⟨by omega, fun j hj => ?_, ?_⟩
    · rcases List.mem_cons.mp hj with rfl | hj
      · omega
      · exact h2 j hj
    · rcases h3 with h3 | h3
      · by_cases e : i ≤ k
        · exact .inr (by rw [h3, Int.max_eq_right e]; exact List.mem_cons_self ..)
        · exact .inl (by rw [h3]; omega)
      · exact .inr (List.mem_cons_of_mem _ h3)
theorem foldl_min_le : ∀ (is : List Int) (i : Int), is.foldl min i ≤ i ∧ (∀ j, j ∈ is → is.foldl min i ≤ j) ∧ (is.foldl min i = i ∨ is.foldl min i ∈ is)
  | [], i => ⟨Int.le_refl _, fun _ h => (by cases h), .inl rfl⟩
  | k :: is, i => by
    obtain ⟨h1, h2, h3⟩ := foldl_min_le is (min i k)
    rw [List.foldl_cons]
    refine ⟨by omega, fun j hj => ?_, ?_⟩
    · rcases List.mem_cons.mp hj with rfl | hj
      · omega
      · exact h2 j hj
    · rcases h3 with h3 | h3
      · by_cases e : k ≤ i
        · exact .inr (by rw [h3, Int.min_eq_right e]; exact List.mem_cons_self ..)
        · exact .inl (by rw [h3]; omega)
      · exact .inr (List.mem_cons_of_mem _ h3)
theorem max_is {i m : Int} {is : List Int} (hm : m ∈ i :: is) (hb : ∀ a, a ∈ i :: is → a ≤ m) : m = maxI (i :: is) := by
  obtain ⟨h1, h2, h3⟩ := foldl_max_ge is i
  show m = is.foldl max i
  have a : is.foldl max i ≤ m := by
    rcases h3 with h3 | h3
    · rw [h3]; exact hb i (List.mem_cons_self ..)
    · exact hb _ (List.mem_cons_of_mem _ h3)
  have b : m ≤ is.foldl max i := by
    rcases List.mem_cons.mp hm with rfl | hm
    · exact h1
    · exact h2 m hm
  omega
theorem min_is {i m : Int} {is : List Int} (hm : m ∈ i :: is) (hb : ∀ a, a ∈ i :: is → m ≤ a) : m = minI (i :: is) := by
  obtain ⟨h1, h2, h3⟩ := foldl_min_le is i
  show m = is.foldl min i
  have a : m ≤ is.foldl min i := by
    rcases h3 with h3 | h3
    · rw [h3]; exact hb i (List.mem_cons_self ..)
    · exact hb _ (List.mem_cons_of_mem _ h3)
  have b : is.foldl min i ≤ m := by
    rcases List.mem_cons.mp hm with rfl | hm
    · exact h1
    · exact h2 m hm
  omega
theorem c_max (hc : X.calm = true) : CallR X (.builtin "max") (rC X.K cls bMax) := by
  rintro pins s σ H xs us Q I r ⟨φ, h, ws, E, C, rs, p⟩
  unfold bMax at p
  split at p
  · cases rs with
    | cons r1 rs =>
      cases rs
      split at p
      · rename_i i is e1
        obtain ⟨a, rfl, hs⟩ := ints_at C r1 e1
        refine cr_max hc pins s σ H _ us Q I r ⟨a, _, rfl, hs, by simp, fun m h1 h2 => ?_⟩
        rw [max_is h1 h2]
        exact rO_ok C p (.int _)
      · exact p.elim
  · exact p.elim
theorem c_min (hc : X.calm = true) : CallR X (.builtin "min") (rC X.K cls bMin) := by
  rintro pins s σ H xs us Q I r ⟨φ, h, ws, E, C, rs, p⟩
  unfold bMin at p
  split at p
  · cases rs with
    | cons r1 rs =>
      cases rs
      split at p
      · rename_i i is e1
        obtain ⟨a, rfl, hs⟩ := ints_at C r1 e1
        refine cr_min hc pins s σ H _ us Q I r ⟨a, _, rfl, hs, by simp, fun m h1 h2 => ?_⟩
        rw [min_is h1 h2]
        exact rO_ok C p (.int _)
      · exact p.elim
  · exact p.elim
theorem gc_max : GrC bMax := fun ws h => by
  unfold bMax
  split
  · split <;> first | exact Nat.le_refl _ | trivial
  · trivial
theorem gc_min : GrC bMin := fun ws h => by
  unfold bMin
  split
  · split <;> first | exact Nat.le_refl _ | trivial
  · trivial
/-! ### i & 1, i >> j -/
theorem o_bitand : OpR X (binaryOp .BitAnd) (rO X.K cls oBitAnd) := by
  rintro pins s σ H x y v u Q I rx ry ⟨φ, h, w1, w2, E, C, r1, r2, p⟩
  unfold oBitAnd at p
  split at p
  · split at p
    · rename_i e
      subst e
      cases r1; cases r2
      exact op_andM pins s σ H _ _ v u Q I rx ry ⟨_, 1, rfl, rfl, rO_ok C p (.int _)⟩
    · exact p.elim
  · exact p.elim
theorem g_bitand : GrO oBitAnd := fun w u h => by
  unfold oBitAnd
  split
  · split <;> first | exact Nat.le_refl _ | trivial
  · trivial
theorem o_shr : OpR X (binaryOp .RShift) (rO X.K cls oShr) := by
  rintro pins s σ H x y v u Q I rx ry ⟨φ, h, w1, w2, E, C, r1, r2, p⟩
  unfold oShr at p
  split at p
  · split at p
    · rename_i e
      cases r1; cases r2
      exact op_shr pins s σ H _ _ v u Q I rx ry ⟨_, _, rfl, rfl, e, rO_ok C p (.int _)⟩
    · exact p.elim
  · exact p.elim
theorem g_shr : GrO oShr := fun w u h => by
  unfold oShr
  split
  · split <;> first | exact Nat.le_refl _ | trivial
  · trivial
end
end PF
namespace PF
open PySem PySem.Spec PyProof.Rows L2
/-! ### sets of keys, built from a list -/
/-- a set as it is new -/
def nuSet (w : World) : Obj := { cls := .type "set", dict := none, data := .set #[] 0 (.fresh 0 0 (!w.params.followText "set-order")) }
section
variable {P : Program} {w : World} {A : Around} {E : Value → Shared → Prop} {s : Shared} {K : Type} [DecidableEq K]
/-- no key stands twice -/
def Apart (kd : PySem.KeyKind P w K) (es : List (Int × Value)) : Prop := es.Pairwise fun e f => ∀ k, ¬ (kd.is k e.2 = true ∧ kd.is k f.2 = true)
/-- the set at a has the keys ks -/
def SG (kd : PySem.KeyKind P w K) (h : Heap) (a : Addr) (ks : List K) (m : Nat) : Prop :=
  ∃ o es ep t, (h.get? a = some o ∧ o.ExactSet ∧ o.data = .set es ep t) ∧ (PySem.ElemsOf kd es.toList ∧ Apart kd es.toList ∧ ∀ k, k ∈ ks ↔ ∃ e ∈ es.toList, kd.is k e.2 = true) ∧
    (es.size ≤ m ∧ es.size < scanBound ∧ t.fits es.size = true) ∧ Ris t.place.toList ∧ (w.params.followText "set-order" = true ∨ t.led = true)
variable {kd : PySem.KeyKind P w K}
theorem SG.stay {h h' : Heap} {a : Addr} {ks : List K} {m : Nat} (g : SG kd h a ks m) (k : ∀ o, h.get? a = some o → h'.get? a = some o) : SG kd h' a ks m := by
  obtain ⟨o, es, ep, t, ⟨e0, e1⟩, rest⟩ := g
  exact ⟨o, es, ep, t, ⟨k o e0, e1⟩, rest⟩
theorem Apart.perm {l l' : List (Int × Value)} (p : l.Perm l') (a : Apart kd l) : Apart kd l' :=
  (p.pairwise_iff fun {_ _} r k z => r k ⟨z.2, z.1⟩).mp a
theorem elems_perm {l l' : List (Int × Value)} (p : l.Perm l') (q : PySem.ElemsOf kd l) : PySem.ElemsOf kd l' := fun e he => q e (p.mem_iff.mpr he)
/-- what is left to be stored when a key is new -/
theorem sg_store {gv : Bool → Sem Unit} (hgv : ∀ (b : Bool) (s1 : Shared) (Q1 : Unit → Shared → Prop), Q1 () s1 → wpAny (model P w) A (gv b) Q1 E s1)
    {a : Addr} {o : Obj} {es : Array (Int × Value)} {ep : Nat} {t : SetTable} (e0 : s.heap.get? a = some o) (e1 : o.ExactSet) (e2 : o.data = .set es ep t)
    {fs : Array (Int × Value)} {u : SetTable} {ks : List K} {m : Nat} (q1 : PySem.ElemsOf kd fs.toList) (q2 : Apart kd fs.toList) (q3 : ∀ k, k ∈ ks ↔ ∃ e ∈ fs.toList, kd.is k e.2 = true)
    (b1 : fs.size ≤ m) (b2 : fs.size < scanBound) (b3 : u.fits fs.size = true) (r1 : Ris u.place.toList) (r2 : w.params.followText "set-order" = true ∨ u.led = true) {dm : Bool} {R : Option Bool → Shared → Prop}
    (fin : ∀ h', Heap.SameBut a s.heap h' → SG kd h' a ks m → R (some true) { s with heap := h' }) :
    wpAny (model P w) A (do
        storeSet a fs u
        if (!dm && u.tooFull) = true then do
            gv (relayAll u fs (SetTable.grown fs.size)).2.2
            storeSet a (relayAll u fs (SetTable.grown fs.size)).1 (relayAll u fs (SetTable.grown fs.size)).2.1
            pure (some true)
          else pure (some true)) R E s := by
  refine wpAny_bind (wpAny_storeSet_of e0 e2 ?_ (fits_of_scanBound b2))
  have n0 := store_at (es' := fs) (t' := u) e0 e2
  have sb := Heap.SameBut.update s.heap a (Obj.putSet fs u)
  split
  · have p1 := relayAll_perm u fs (SetTable.grown fs.size)
    have p2 := relayAll_fits u fs (SetTable.grown fs.size)
    have p3 := relayAll_ris u fs (SetTable.grown fs.size)
    have p4 := relayAll_led u fs (SetTable.grown fs.size)
    generalize relayAll u fs (SetTable.grown fs.size) = Y at p1 p2 p3 p4 ⊢
    obtain ⟨gs, v, gave⟩ := Y
    dsimp only at p1 p2 p3 p4 ⊢
    have sz : gs.size = fs.size := by rw [← Array.length_toList, p1.length_eq, Array.length_toList]
    refine wpAny_bind (hgv _ _ _ ?_)
    refine wpAny_bind (wpAny_storeSet_of n0 rfl ?_ (fits_of_scanBound (by rw [sz]; exact b2)))
    have n1 := store_at (es' := gs) (t' := v) n0 rfl
    refine wpAny_pure (fin _ (sb.trans (Heap.SameBut.update _ a _)) ⟨_, gs, _, v, ⟨n1, e1, rfl⟩, ⟨elems_perm p1.symm q1, q2.perm p1.symm, fun k => (q3 k).trans ?_⟩, ⟨by omega, by omega, p2⟩, p3, r2.imp id fun z => by rw [p4]; exact z⟩)
    exact ⟨fun ⟨e, he, z⟩ => ⟨e, p1.mem_iff.mpr he, z⟩, fun ⟨e, he, z⟩ => ⟨e, p1.mem_iff.mp he, z⟩⟩
  · exact wpAny_pure (fin _ sb ⟨_, fs, _, u, ⟨n0, e1, rfl⟩, ⟨q1, q2, q3⟩, ⟨b1, b2, b3⟩, r1, r2⟩)
/-- one key more -/
theorem sg_add {a : Addr} {ks : List K} {m : Nat} {k : K} {x : Value} {Q : Bool → Shared → Prop} (hk : kd.is k x = true) (hx : x.scannable = true) (g : SG kd s.heap a ks m) (room : m + 1 < scanBound)
    (fin : ∀ b h', Heap.SameBut a s.heap h' → SG kd h' a (ks ++ [k]) (m + 1) → Q b { s with heap := h' }) : wpAny (model P w) A (setAddHashed a x (kd.hash k)) Q E s := by
  obtain ⟨o, es, ep, t, ⟨e0, e1, e2⟩, ⟨q1, q2, q3⟩, ⟨b1, b2, b3⟩, r1, r2⟩ := g
  unfold setAddHashed setAddHashedIn
  refine wpAny_holding (wpAny_bind (wpAny_setState_of e0 e2 b3 ?_))
  dsimp only
  rw [byScan_of hx b2 q1]
  simp only [↓reduceIte]
  unfold setAddByScan
  refine wpAny_bind ?_
  refine wpAny_bind (wpAny_rule ?_)
  refine wpAny_bind (wpAny_setScan_of hk e0 e2 b3 q1 ?_)
  cases ix : List.findIdx? (fun e => kd.is k e.2) es.toList with
  | some j =>
    dsimp only
    obtain ⟨hj, pj, _⟩ := List.findIdx?_eq_some_iff_getElem.mp ix
    have there : k ∈ ks := (q3 k).mpr ⟨es.toList[j], List.getElem_mem hj, pj⟩
    refine wpAny_pure (wpAny_pure ?_)
    refine fin _ s.heap (Heap.SameBut.refl a s.heap) ⟨o, es, ep, t, ⟨e0, e1, e2⟩, ⟨q1, q2, fun i => ?_⟩, ⟨by omega, b2, b3⟩, r1, r2⟩
    rw [← q3 i, List.mem_append, List.mem_singleton]
    exact ⟨fun z => z.elim id fun z => by rw [z]; exact there, .inl⟩
  | none =>
    dsimp only
    have away : ∀ e ∈ es.toList, kd.is k e.2 = false := fun e he => by
      have := List.findIdx?_eq_none_iff.mp ix e he
      simpa using this
    have hgv : ∀ (b : Bool) {s1 : Shared} {Q1 : Unit → Shared → Prop}, Q1 () s1 → wpAny (model P w) A (match b with | true => rule "set.scan.the-table-gave-way" | false => pure ()) Q1 E s1 := fun b s1 Q1 z => by
      cases b
      · exact wpAny_pure z
      · exact wpAny_rule z
    have p1 := layNew_perm t es (kd.hash k) x
    have p2 := layNew_fits t es (kd.hash k) x
    have p3 := layNew_ris t es (kd.hash k) x r1
    have p4 := layNew_led t es (kd.hash k) x
    generalize layNew t es (kd.hash k) x = Y at p1 p2 p3 p4 ⊢
    obtain ⟨fs, u, dm, gave⟩ := Y
    dsimp only at p1 p2 p3 p4 ⊢
    rw [Array.toList_push] at p1
    have pc : fs.toList.Perm ((kd.hash k, x) :: es.toList) := p1.trans (List.perm_append_singleton _ _)
    have sz : fs.size = es.size + 1 := by rw [← Array.length_toList, pc.length_eq, List.length_cons, Array.length_toList]
    have c1 : PySem.ElemsOf kd fs.toList := elems_perm pc.symm fun e he => by
      rcases List.mem_cons.mp he with z | z
      · rw [z]; exact ⟨⟨k, hk, rfl⟩, hx⟩
      · exact q1 e z
    have c2 : Apart kd fs.toList := Apart.perm pc.symm (List.pairwise_cons.mpr ⟨fun e he i z => by
      have := kd.inj x i k z.1 hk
      rw [this, away e he] at z
      exact Bool.false_ne_true z.2, q2⟩)
    have c3 : ∀ i, i ∈ ks ++ [k] ↔ ∃ e ∈ fs.toList, kd.is i e.2 = true := fun i => by
      rw [List.mem_append, List.mem_singleton, q3 i]
      constructor
      · rintro (⟨e, he, z⟩ | rfl)
        · exact ⟨e, pc.mem_iff.mpr (List.mem_cons_of_mem _ he), z⟩
        · exact ⟨_, pc.mem_iff.mpr (List.mem_cons_self ..), hk⟩
      · rintro ⟨e, he, z⟩
        rcases List.mem_cons.mp (pc.mem_iff.mp he) with y | y
        · rw [y] at z; exact .inr (kd.inj x i k z hk)
        · exact .inl ⟨e, y, z⟩
    have led : w.params.followText "set-order" = true ∨ u.led = true := r2.imp id fun z => by rw [p4]; exact z
    refine wpAny_bind (hgv _ ?_)
    split
    · refine wpAny_bind ?_
      rw [hashByValue_scannable 8 hx]
      refine wpAny_pure ?_
      refine sg_store ?_ e0 e1 e2 c1 c2 c3 (m := m + 1) (by omega) (by omega) ?_ ?_ ?_ ?_
      · intro b s1 Q1 z
        cases b
        · exact wpAny_pure z
        · exact wpAny_rule z
      · first | (split <;> first | exact p2 | exact SetTable.fits_plain_off p2) | exact p2
      · first | (split <;> exact p3) | exact p3
      · first | (split <;> exact led) | exact led
      · intro h' sb z
        dsimp only
        exact wpAny_pure (fin _ h' sb z)
    · refine wpAny_bind (wpAny_pure ?_)
      simp only [↓reduceIte]
      refine sg_store ?_ e0 e1 e2 c1 c2 c3 (m := m + 1) (by omega) (by omega) p2 p3 led ?_
      · intro b s1 Q1 z
        cases b
        · exact wpAny_pure z
        · exact wpAny_rule z
      · intro h' sb z
        dsimp only
        exact wpAny_pure (fin _ h' sb z)

/-- the values told, one by one, with their keys -/
def KeyAt (kd : PySem.KeyKind P w K) (ks : List K) (i : Nat) (v : Value) : Prop := ∃ k, ks[i]? = some k ∧ kd.is k v = true ∧ v.scannable = true
/-- what a walk tells is put into the set -/
theorem sg_loop {I : Addr} {fp wr : List Addr} {G : Array GenState → Array GenState → Prop} {n : Nat} {Pv : Nat → Value → Prop} {St : Nat → Shared → Prop} {R : Result → Shared → Prop}
    (W : WalksS P w A.in1 I fp wr G n Pv St) {c : Addr} (cf : c ∉ fp) {ks : List K} (en : n = ks.length) (room : ks.length + 1 < scanBound) (val : ∀ i v, Pv i v → KeyAt kd ks i v)
    (fin : ∀ s', Moved (c :: wr) G s s' → SG kd s'.heap c ks ks.length → R (.ok (.ret .none)) s') :
    ∀ (f i : Nat) (s1 : Shared), n - i = f → i ≤ n → St i s1 → SG kd s1.heap c (ks.take i) i → Moved (c :: wr) G s s1 → codeAny (model P w) A (.builtin "set.update.loop" ⟨[.ref c, .ref I], []⟩) R s1 := by
  have cw : c ∉ wr := fun z => cf (W.sub _ z)
  have more : ∀ b ∈ wr, b ∈ c :: wr := fun _ => List.mem_cons_of_mem _
  intro f
  induction f with
  | zero =>
    intro i s1 ef le st g mv
    have e : i = n := by omega
    refine codeAny_builtin F.entry_set_update_loop (by
      rw [Around.under_plainId F.plain_set_update_loop _]
      change wpAny _ A.in1 (pyNext (.ref I) >>= _) _ _ s1
      refine wpAny_bind (W.done s1 _ _ (e ▸ st) fun s2 m2 => ?_)
      change wpAny _ A.in1 (ret Value.none) _ _ s2
      refine wpAny_pure ?_
      rw [e, en, List.take_length] at g
      exact fin s2 (Moved.trans W.gtrans mv (m2.mono more)) (g.stay fun o z => m2.heap c o cw z))
  | succ f ih =>
    intro i s1 ef le st g mv
    have lt : i < n := by omega
    refine codeAny_builtin F.entry_set_update_loop (by
      rw [Around.under_plainId F.plain_set_update_loop _]
      change wpAny _ A.in1 (pyNext (.ref I) >>= _) _ _ s1
      refine wpAny_bind (W.item i s1 _ _ lt st fun v s2 pv st2 m2 => ?_)
      obtain ⟨k, hk, hv, hx⟩ := val i v pv
      have g2 : SG kd s2.heap c (ks.take i) i := g.stay fun o z => m2.heap c o cw z
      change wpAny _ A.in1 (holding [v] (setAdd c v) >>= _) _ _ s2
      refine wpAny_bind (wpAny_holding ?_)
      unfold setAdd
      refine wpAny_holding (wpAny_bind (kd.pyHash (k := k) hv ?_))
      refine sg_add (s := { s2 with toks := s2.toks + 1 }) hv hx g2 (by omega) fun b h' sb g3 => ?_
      refine wpAny_pure ⟨plainId_quiet F.plain_set_update_loop _, ih (i + 1) _ (by omega) lt (W.frame _ s2 _ _ st2 (Nat.le_succ _) fun b hb o e => ?_) ?_ ?_⟩
      · rw [sb.2 b fun z => cf (by rw [← z]; exact hb)]; exact e
      · have e : ks.take (i + 1) = ks.take i ++ [k] := by rw [List.take_add_one, hk]; rfl
        rw [e]; exact g3
      · refine Moved.trans W.gtrans mv ((m2.mono more).then_heap (Nat.le_succ _) fun b o hb e => ?_)
        rw [sb.2 b fun z => hb (by rw [z]; exact List.mem_cons_self)]; exact e)

theorem sg_nu {h : Heap} {c : Addr} (e : h.get? c = some (nuSet w)) : SG kd h c [] 0 :=
  ⟨_, #[], 0, _, ⟨e, ⟨rfl, rfl, rfl⟩, rfl⟩, ⟨fun _ z => by simp at z, by simp [Apart], fun _ => by simp⟩, ⟨Nat.le_refl _, by decide, rfl⟩, List.Pairwise.nil, by
    show _ ∨ (!w.params.followText "set-order") = true
    cases w.params.followText "set-order" <;> simp⟩
set_option maxHeartbeats 8000000 in
/-- set(a list): its keys -/
theorem call_setL {l : Addr} {vs : Array Value} {ks : List K} {Q : Value → Shared → Prop} (nh : A.handled = none) (ls : s.heap.IsList l vs) (en : vs.size = ks.length) (val : ∀ (i : Nat) v, vs[i]? = some v → KeyAt kd ks i v)
    (room : ks.length + 1 < scanBound)
    (fin : ∀ (h' : Heap) (tk : Nat), SG kd h' s.heap.objs.size ks ks.length → (∀ b o, s.heap.get? b = some o → h'.get? b = some o) → Q (.ref s.heap.objs.size) { s with heap := h', toks := tk }) :
    wpAny (model P w) A (call (.type "set") [.ref l]) Q E s := by
  obtain ⟨_, _, ance⟩ := PySem.F.called_set.mro
  have k1 := PySem.F.called_set.made; have k2 := PySem.F.called_set.sub; have k3 := PySem.F.called_set.notType; have k4 := PySem.F.called_set.canCreate
  have k5 := PySem.F.typeCall_set_1 (.ref l); have k6 := PySem.F.called_set.init.lookup
  refine wpAny_call (codeAny_of_tree (?_ : wpAny _ _ (callAny (.type "set") _) _ _ s))
  refine wpAny_pure ⟨Code.quiet_builtin _ (by decide +kernel), codeAny_builtin PySem.F.entry_type_call (by
    rw [Around.under_plain (weight_type_call_type "set" [.ref l] []) rfl]
    repeat (any_goals (first | assumption | wp_step))
    refine codeAny_mono (code_set_led1 (.ref l) (E := E) (Q₁ := fun x s1 => x = .ref s.heap.objs.size ∧ s1 = { s with heap := s.heap.push (nuSet w) }) ⟨rfl, rfl⟩) fun r s1 hr => ?_
    match r, hr with
    | .error e, hr => exact hr
    | .ok (.ret x), hr =>
      obtain ⟨rfl, rfl⟩ := hr
      have nu : (s.heap.push (nuSet w)).get? s.heap.objs.size = some (nuSet w) := Heap.get?_push_size _ rfl
      have ty : Shared.TypeIs { s with heap := s.heap.push (nuSet w) } (.ref s.heap.objs.size) "set" := ⟨_, nu, rfl⟩
      have k7 := PySem.F.called_set.init.bind (.ref s.heap.objs.size)
      repeat (any_goals (first | assumption | wp_step))
      refine codeAny_mono (codeAny_call_builtin (R := wants (fun x s2 => x = .none ∧ ∃ h' tk, s2 = { s with heap := h', toks := tk } ∧ SG kd h' s.heap.objs.size ks ks.length ∧ ∀ b o, s.heap.get? b = some o → h'.get? b = some o) E)
        PySem.F.called_set.init.plain PySem.F.entry_set_init (check_set_init_1 ty ?_)) fun r2 s2 hr2 => ?_
      · obtain ⟨⟨oc, od, odt, osl⟩, eo, ec, nl, ed⟩ := ls
        simp only at ec ed
        subst ec; subst ed
        have eo2 := Heap.get?_push_of_some (nuSet w) eo
        have k8 := PySem.F.sub_list_set; have k9 := PySem.F.sub_list_frozenset
        have ka : (Value.type "list" == Value.type "dict") = false := by decide
        have ls2 : (s.heap.push (nuSet w)).IsList l vs := ⟨_, eo2, rfl, nl, rfl⟩
        unfold Builtin.«set.__init__» noKeywords Builtin.Frozenset.updateFrom
        generalize hPI : pyIter = PI
        wp_walk
        subst hPI
        refine wpAny_pyIter_list ls2 (wpAny_bind (wpAny_runValue ?_))
        have lt : l < s.heap.objs.size := Heap.lt_size eo
        have sz : (s.heap.push (nuSet w)).objs.size = s.heap.objs.size + 1 := Heap.size_push ..
        have nh3 : A.in1.in1.in1.handled = none := by simp [nh]
        have away : s.heap.objs.size ∉ [(s.heap.push (nuSet w)).objs.size, l] := by
          rw [sz]
          simp only [List.mem_cons, List.not_mem_nil, or_false, not_or]
          exact ⟨Nat.ne_of_lt (Nat.lt_succ_self _), Nat.ne_of_gt lt⟩
        have ne : l ≠ (s.heap.push (nuSet w)).objs.size := by rw [sz]; exact Nat.ne_of_lt (Nat.lt_succ_of_lt lt)
        have W := (Walks.list (prog := P) (w := w) nh3 _ l ne vs).toS
        refine sg_loop W away en room val ?_ (vs.size - 0) 0 _ (by omega) (Nat.zero_le _) ⟨⟨_, Heap.get?_push_size _ rfl, rfl, rfl⟩, (ls2.push _)⟩ (sg_nu (Heap.get?_push_of_some _ nu)) (Moved.refl fun _ => rfl)
        · intro s3 mv g
          obtain ⟨h', gg, dd, tk, oo⟩ := s3
          obtain rfl : gg = s.gens := mv.gens
          obtain rfl : dd = s.drawn := mv.drawn
          obtain rfl : oo = s.os := mv.os
          refine wpAny_pure (?_ : wpAny _ _ (ret Value.none) _ _ _)
          refine wpAny_pure ⟨rfl, h', tk, rfl, g, fun b o e => mv.heap b o ?_ (Heap.get?_push_of_some _ (Heap.get?_push_of_some _ e))⟩
          have lb := Heap.lt_size e
          rw [sz]
          simp only [List.mem_cons, List.not_mem_nil, or_false, not_or]
          exact ⟨Nat.ne_of_lt lb, Nat.ne_of_lt (Nat.lt_succ_of_lt lb)⟩
      · match r2, hr2 with
        | .error e, hr2 => exact hr2
        | .ok (.ret x), hr2 =>
          obtain ⟨rfl, h', tk, rfl, g, keep⟩ := hr2
          repeat (any_goals (first | assumption | wp_step))
          exact fin _ _ g keep
        | .ok .next, hr2 => exact hr2.elim
    | .ok .next, hr => exact hr.elim)⟩
end
end PF
namespace PF
open PySem PySem.Spec PyProof.Rows L2
/-! ### a set in the store of HandS -/
section
variable {P : Program} {w : World} {A : Around} {E : Value → Shared → Prop} {s : Shared} {K : Type} [DecidableEq K] {kd : PySem.KeyKind P w K}
def setHO (kd : PySem.KeyKind P w K) (a : Addr) (ks : List K) : HO := .ext fun h => SG kd h a ks ks.length
theorem setHO_ok {H : Hp} {h : Heap} {a : Addr} {ks : List K} (g : SG kd h a ks ks.length) : ObjOk P w H h a (setHO kd a ks) := by
  obtain ⟨o, es, ep, t, ⟨e0, e1⟩, rest⟩ := id g
  exact ⟨g, ⟨o, e0⟩, fun h1 h2 g k => g.stay k⟩
/-- the members, in any order -/
theorem sg_out {a : Addr} {ks : List K} {m : Nat} (g : SG kd s.heap a ks m) (nh : A.handled = none) {Q : List Value → Shared → Prop}
    (fin : ∀ s' vs, (∀ b o, s.heap.get? b = some o → s'.heap.get? b = some o) → s.heap.objs.size ≤ s'.heap.objs.size → s'.gens = s.gens → s'.os = s.os → vs.length ≤ m → vs.length < scanBound →
      vs.Pairwise (fun u v => ∀ k, ¬ (kd.is k u = true ∧ kd.is k v = true)) → (∀ v, v ∈ vs → ∃ k, kd.is k v = true) → (∀ k, k ∈ ks ↔ ∃ v, v ∈ vs ∧ kd.is k v = true) → Q vs s') : wpAny (model P w) A (collect (.ref a)) Q E s := by
  obtain ⟨o, es, ep, t, ⟨e0, e1, e2⟩, ⟨q1, q2, q3⟩, ⟨b1, b2, b3⟩, r1, r2⟩ := g
  refine collect_set nh ⟨o, e0, e1.1, e2⟩ b3 b2 r1 r2 fun s' vs k z g1 g2 pm => ?_
  have el : vs.length = es.size := by rw [pm.length_eq, List.length_map, Array.length_toList]
  refine fin s' vs k z g1 g2 (by omega) (by omega) ?_ (fun v hv => ?_) fun k => ?_
  · have q4 : (es.toList.map (·.2)).Pairwise (fun u v => ∀ k, ¬ (kd.is k u = true ∧ kd.is k v = true)) := List.pairwise_map.mpr q2
    exact (pm.pairwise_iff fun {_ _} r k z => r k ⟨z.2, z.1⟩).mpr q4
  · obtain ⟨e, he, rfl⟩ := List.mem_map.mp (pm.mem_iff.mp hv)
    exact (q1 e he).1.imp fun k z => z.1
  · rw [q3 k]
    constructor
    · rintro ⟨e, he, z⟩
      exact ⟨e.2, pm.mem_iff.mpr (List.mem_map_of_mem he), z⟩
    · rintro ⟨v, hv, z⟩
      obtain ⟨e, he, rfl⟩ := List.mem_map.mp (pm.mem_iff.mp hv)
      exact ⟨e, he, z⟩
/-- their number -/
theorem sg_size {a : Addr} {ks : List K} {m : Nat} (g : SG kd s.heap a ks m) {Q : Value → Shared → Prop} (fin : ∀ n : Nat, n ≤ m → (∃ l : List K, l.Nodup ∧ (∀ k, k ∈ l ↔ k ∈ ks) ∧ l.length = n) → Q (.int n (s.toks + 1)) { s with toks := s.toks + 1 + 1 }) :
    wpAny (model P w) A (call (.builtin "len") [.ref a]) Q E s := by
  obtain ⟨o, es, ep, t, ⟨e0, e1, e2⟩, ⟨q1, q2, q3⟩, ⟨b1, b2, b3⟩, r1, r2⟩ := g
  refine call_len_set e0 e1 e2 b3 (by unfold scanBound at b2; omega) (fin es.size b1 ?_)
  have pick : ∀ l : List (Int × Value), (∀ e, e ∈ l → ∃ k, kd.is k e.2 = true) → Apart kd l → ∃ m : List K, m.Nodup ∧ (∀ k, k ∈ m ↔ ∃ e ∈ l, kd.is k e.2 = true) ∧ m.length = l.length := by
    intro l
    induction l with
    | nil => exact fun _ _ => ⟨[], List.nodup_nil, fun k => by simp, rfl⟩
    | cons e l ih =>
      intro h1 h2
      obtain ⟨h3, h4⟩ := List.pairwise_cons.mp h2
      obtain ⟨m, m1, m2, m3⟩ := ih (fun f hf => h1 f (List.mem_cons_of_mem _ hf)) h4
      obtain ⟨k, hk⟩ := h1 e (List.mem_cons_self ..)
      refine ⟨k :: m, List.nodup_cons.mpr ⟨fun z => ?_, m1⟩, fun i => ?_, by simp [m3]⟩
      · obtain ⟨f, hf, z⟩ := (m2 k).mp z
        exact h3 f hf k ⟨hk, z⟩
      · rw [List.mem_cons, m2 i]
        constructor
        · rintro (rfl | ⟨f, hf, z⟩)
          · exact ⟨e, List.mem_cons_self .., hk⟩
          · exact ⟨f, List.mem_cons_of_mem _ hf, z⟩
        · rintro ⟨f, hf, z⟩
          rcases List.mem_cons.mp hf with rfl | hf
          · exact .inl (kd.inj _ _ _ z hk)
          · exact .inr ⟨f, hf, z⟩
  obtain ⟨l, l1, l2, l3⟩ := pick es.toList (fun e he => (q1 e he).1.imp fun k z => z.1) q2
  exact ⟨l, l1, fun k => by rw [l2, q3], by rw [l3, Array.length_toList]⟩
end
theorem strV_of {v : Value} {k : PySem.Str} {P : Program} {w : World} (h : (PySem.strKind P w).is k v = true) : ∃ t, v = .str k t := Value.isStrOf_shape h
theorem intV_of {v : Value} {k : Int} {P : Program} {w : World} (h : (PySem.intKind P w).is k v = true) : ∃ t, v = .int k t := Value.isInt_shape h
theorem strs_set {P : Program} {w : World} : ∀ vs : List Value, (∀ v, v ∈ vs → ∃ k, (PySem.strKind P w).is k v = true) → vs.Pairwise (fun u v => ∀ k, ¬ ((PySem.strKind P w).is k u = true ∧ (PySem.strKind P w).is k v = true)) →
    ∃ ss, StrsAre vs ss ∧ ss.Nodup ∧ ∀ k, k ∈ ss ↔ ∃ v, v ∈ vs ∧ (PySem.strKind P w).is k v = true
  | [], _, _ => ⟨[], .nil, List.nodup_nil, fun k => by simp⟩
  | v :: vs, h, d => by
    obtain ⟨d1, d2⟩ := List.pairwise_cons.mp d
    obtain ⟨ss, h1, h2, h3⟩ := strs_set vs (fun u hu => h u (List.mem_cons_of_mem _ hu)) d2
    obtain ⟨k, hk⟩ := h v (List.mem_cons_self ..)
    obtain ⟨t, rfl⟩ := strV_of hk
    refine ⟨k :: ss, .cons k t h1, List.nodup_cons.mpr ⟨fun z => ?_, h2⟩, fun i => ?_⟩
    · obtain ⟨u, hu, z⟩ := (h3 k).mp z
      exact d1 u hu k ⟨hk, z⟩
    · rw [List.mem_cons, h3 i]
      constructor
      · rintro (rfl | ⟨u, hu, z⟩)
        · exact ⟨_, List.mem_cons_self .., hk⟩
        · exact ⟨u, List.mem_cons_of_mem _ hu, z⟩
      · rintro ⟨u, hu, z⟩
        rcases List.mem_cons.mp hu with rfl | hu
        · exact .inl ((PySem.strKind P w).inj _ _ _ z hk)
        · exact .inr ⟨u, hu, z⟩
theorem ints_set {P : Program} {w : World} : ∀ vs : List Value, (∀ v, v ∈ vs → ∃ k, (PySem.intKind P w).is k v = true) → vs.Pairwise (fun u v => ∀ k, ¬ ((PySem.intKind P w).is k u = true ∧ (PySem.intKind P w).is k v = true)) →
    ∃ ss, IntsAre vs ss ∧ ss.Nodup ∧ ∀ k, k ∈ ss ↔ ∃ v, v ∈ vs ∧ (PySem.intKind P w).is k v = true
  | [], _, _ => ⟨[], .nil, List.nodup_nil, fun k => by simp⟩
  | v :: vs, h, d => by
    obtain ⟨d1, d2⟩ := List.pairwise_cons.mp d
    obtain ⟨ss, h1, h2, h3⟩ := ints_set vs (fun u hu => h u (List.mem_cons_of_mem _ hu)) d2
    obtain ⟨k, hk⟩ := h v (List.mem_cons_self ..)
    obtain ⟨t, rfl⟩ := intV_of hk
    refine ⟨k :: ss, .cons k t h1, List.nodup_cons.mpr ⟨fun z => ?_, h2⟩, fun i => ?_⟩
    · obtain ⟨u, hu, z⟩ := (h3 k).mp z
      exact d1 u hu k ⟨hk, z⟩
    · rw [List.mem_cons, h3 i]
      constructor
      · rintro (rfl | ⟨u, hu, z⟩)
        · exact ⟨_, List.mem_cons_self .., hk⟩
        · exact ⟨u, List.mem_cons_of_mem _ hu, z⟩
      · rintro ⟨u, hu, z⟩
        rcases List.mem_cons.mp hu with rfl | hu
        · exact .inl ((PySem.intKind P w).inj _ _ _ z hk)
        · exact .inr ⟨u, hu, z⟩
section
variable {X : Cx} {cls : Cl} {W : WX}
/-- set(a list), as HandS has it -/
theorem cr_setKd {K : Type} [DecidableEq K] (kd : PySem.KeyKind X.prog X.w K) (hc : X.calm = true) {f : K → V} (hf : ∀ k v, RelV (f k) v → kd.is k v = true ∧ v.scannable = true) : CallR X (.type "set") (fun xs H Q => ∃ (a : Addr) (ks : List K), xs = [.ref a] ∧ SqL X.K H a (ks.map f) ∧ ks.length < 4000 ∧
    ∀ q, H q = none → Q (.ref q) (upd H q (setHO kd q ks))) := by
  intro pins s σ H xs us Q I r h
  obtain ⟨a, ks, rfl, hs, lt, q⟩ := h
  obtain ⟨its, rv, hl, hz⟩ := I.list hs
  obtain rfl := Vals.ref1 r
  have en := rv.length
  rw [List.length_map] at en
  have val : ∀ (i : Nat) v, its.toArray[i]? = some v → KeyAt kd ks i v := fun i v e => by
    have e1 : its[i]? = some v := by simpa using e
    have hi : i < its.length := (List.getElem?_eq_some_iff.mp e1).1
    have e2 : ks[i]? = some (ks[i]'(by omega)) := List.getElem?_eq_getElem (by omega)
    obtain ⟨v', e3, r1⟩ := rv.get (i := i) (x := f (ks[i]'(by omega))) (by rw [List.getElem?_map, e2]; rfl)
    obtain rfl : v' = v := Option.some.inj (e3.symm.trans e1)
    exact ⟨_, e2, hf _ _ r1⟩
  refine call_setL (kd := kd) (I.ok.hd hc) hl.isList (by simpa using en.symm) val (by unfold scanBound; omega) fun h' tk g keep => ?_
  exact ⟨.ref _, _, I.laid keep (Nat.le_refl _) (setHO_ok g), rfl, q _ (I.hok.fresh (Nat.le_refl _))⟩

def rSetS (P : Program) (w : World) : List V → Hp → VK → Prop := fun xs H Q => ∃ (a : Addr) (ks : List PySem.Str), xs = [.ref a] ∧ H a = some (setHO (PySem.strKind P w) a ks) ∧ ks.length < 4000 ∧
  ∀ (ys : List PySem.Str) q, ys.Nodup → (∀ k, k ∈ ys ↔ k ∈ ks) → sortedS ys = true → H q = none → Q (.ref q) (upd H q (.lst (ys.map V.str)))
theorem cr_sortSetS (hc : X.calm = true) : CallR X (.builtin "sorted") (rSetS X.prog X.w) := by
  intro pins s σ H xs us Q I r h
  obtain ⟨a, ks, rfl, ha, lt, q⟩ := h
  obtain rfl := Vals.ref1 r
  have g : SG (PySem.strKind X.prog X.w) s.heap a ks ks.length := (I.hok a _ ha).1
  refine Calls.call_function_entry kind_sorted plain_sorted entry_sorted (args_sorted1 _) ?_
  unfold Builtin.«sorted»
  refine wpAny_bind (m := checkCount "sorted" 1 1 _) (wpAny_pure (wpAny_bind (sg_out g (A := X.A.in1) (I.ok.hd hc) fun s1 vs keep z g1 g2 l1 l2 d all mem => ?_)))
  obtain ⟨ss, h1, h2, h3⟩ := strs_set vs all d
  have lv : vs.length ≤ sizeLine := by rw [sizeLine_eq]; omega
  refine wpAny_bind (wpAny_newList ?_ lv)
  have eL : (s1.heap.push (seqObj "list" vs.toArray 0)).get? s1.heap.objs.size = some (seqObj "list" vs.toArray 0) := Heap.get?_push_size _ rfl
  refine wpAny_bind (wpAny_holding (wpAny_call_entry slot_list_sort ⟨_, eL, rfl⟩ entry_list_sort (list_sort_treeKAny strKind_oneLt eL h1.keysOf (fun _ _ _ e => keyKind_strs (by rw [← e]; exact h1)) lv fun st' p1 p2 => ⟨_, rfl, ?_⟩) (args_list_sort _)))
  obtain ⟨ys, y1, y2, y3⟩ := sorted_out_str h1 p1 p2
  obtain ⟨c, ec⟩ := sortedHeap_at (vs := vs) (out := (arrOf st').map (·.2)) eL
  have hlen : (ys.map V.str).length ≤ sizeLine := by
    have := h1.len_eq
    rw [List.length_map, y2.length_eq]; omega
  have hn : H s1.heap.objs.size = none := I.hok.fresh z
  have k2 : ∀ b u, s.heap.get? b = some u → (sortedHeap (s1.heap.push (seqObj "list" vs.toArray 0)) s1.heap.objs.size vs ((arrOf st').map (·.2))).get? b = some u := fun b u e => by
    have e1 := keep b u e
    have lt := Heap.lt_size e1
    rw [sortedHeap_old (Nat.ne_of_lt lt) (by rw [size_push']; exact Nat.lt_succ_of_lt lt)]
    exact Heap.get?_push_of_some _ e1
  obtain ⟨h1', gg, dd, tk, oo⟩ := s1
  obtain rfl : gg = s.gens := g1
  obtain rfl : oo = s.os := g2
  have J : Inv X pins σ (upd H h1'.objs.size (.lst (ys.map V.str))) { s with heap := _, drawn := dd, toks := tk } :=
    I.call (ch := []) (Un.laid k2 z hn) (I.hok.laid k2 z ⟨hlen, _, c, vals_of_strs y1, ec⟩) I.bare (fun _ z => nomatch z)
  exact wpAny_pure ⟨_, rfl, .ref _, _, J, rfl, q ys _ (y2.nodup_iff.mpr h2) (fun k => by rw [y2.mem_iff, h3, mem]) y3 hn⟩
def rSetI (P : Program) (w : World) : List V → Hp → VK → Prop := fun xs H Q => ∃ (a : Addr) (ks : List Int), xs = [.ref a] ∧ H a = some (setHO (PySem.intKind P w) a ks) ∧ ks.length < 4000 ∧
  ∀ (ys : List Int) q, ys.Nodup → (∀ k, k ∈ ys ↔ k ∈ ks) → ys.Pairwise (· ≤ ·) → H q = none → Q (.ref q) (upd H q (.lst (ys.map V.int)))
theorem cr_sortSetI (hc : X.calm = true) : CallR X (.builtin "sorted") (rSetI X.prog X.w) := by
  intro pins s σ H xs us Q I r h
  obtain ⟨a, ks, rfl, ha, lt, q⟩ := h
  obtain rfl := Vals.ref1 r
  have g : SG (PySem.intKind X.prog X.w) s.heap a ks ks.length := (I.hok a _ ha).1
  refine Calls.call_function_entry kind_sorted plain_sorted entry_sorted (args_sorted1 _) ?_
  unfold Builtin.«sorted»
  refine wpAny_bind (m := checkCount "sorted" 1 1 _) (wpAny_pure (wpAny_bind (sg_out g (A := X.A.in1) (I.ok.hd hc) fun s1 vs keep z g1 g2 l1 l2 d all mem => ?_)))
  obtain ⟨ss, h1, h2, h3⟩ := ints_set vs all d
  have lv : vs.length ≤ sizeLine := by rw [sizeLine_eq]; omega
  refine wpAny_bind (wpAny_newList ?_ lv)
  have eL : (s1.heap.push (seqObj "list" vs.toArray 0)).get? s1.heap.objs.size = some (seqObj "list" vs.toArray 0) := Heap.get?_push_size _ rfl
  refine wpAny_bind (wpAny_holding (wpAny_call_entry slot_list_sort ⟨_, eL, rfl⟩ entry_list_sort (list_sort_treeAny eL h1 lv fun out ys y1 y2 y3 => ⟨_, rfl, ?_⟩) (args_list_sort _)))
  obtain ⟨c, ec⟩ := sortedHeap_at (vs := vs) (out := out) eL
  have hlen : (ys.map V.int).length ≤ sizeLine := by
    have := IntsAre.length h1
    rw [List.length_map, y2.length_eq]; omega
  have hn : H s1.heap.objs.size = none := I.hok.fresh z
  have k2 : ∀ b u, s.heap.get? b = some u → (sortedHeap (s1.heap.push (seqObj "list" vs.toArray 0)) s1.heap.objs.size vs out).get? b = some u := fun b u e => by
    have e1 := keep b u e
    have lt := Heap.lt_size e1
    rw [sortedHeap_old (Nat.ne_of_lt lt) (by rw [size_push']; exact Nat.lt_succ_of_lt lt)]
    exact Heap.get?_push_of_some _ e1
  obtain ⟨h1', gg, dd, tk, oo⟩ := s1
  obtain rfl : gg = s.gens := g1
  obtain rfl : oo = s.os := g2
  have J : Inv X pins σ (upd H h1'.objs.size (.lst (ys.map V.int))) { s with heap := _, drawn := dd, toks := tk } :=
    I.call (ch := []) (Un.laid k2 z hn) (I.hok.laid k2 z ⟨hlen, out.toList, c, vals_of_ints y1, ec⟩) I.bare (fun _ z => nomatch z)
  exact wpAny_pure ⟨_, rfl, .ref _, _, J, rfl, q ys _ (y2.nodup_iff.mpr h2) (fun k => by rw [y2.mem_iff, h3, mem]) y3 hn⟩
/-- len(a set) -/
theorem cr_lenSet {K : Type} [DecidableEq K] (kd : PySem.KeyKind X.prog X.w K) : CallR X (.builtin "len") (fun xs H Q => ∃ (a : Addr) (ks : List K), xs = [.ref a] ∧ H a = some (setHO kd a ks) ∧ Q (.int (nub ks).length) H) := by
  intro pins s σ H xs us Q I r h
  obtain ⟨a, ks, rfl, ha, q⟩ := h
  obtain rfl := Vals.ref1 r
  have g : SG kd s.heap a ks ks.length := (I.hok a _ ha).1
  refine sg_size g fun n hn ⟨l, l1, l2, l3⟩ => ?_
  have e : n = (nub ks).length := by rw [← l3]; exact (nub_perm l1 l2).length_eq
  subst e
  exact ⟨.int _, _, I.tok _, ⟨_, rfl⟩, q⟩

def rSetL (P : Program) (w : World) (K : PySem.W.Frag) : List V → Hp → VK → Prop := fun xs H Q =>
  (∃ (a : Addr) (ks : List PySem.Str), xs = [.ref a] ∧ SqL K H a (ks.map V.str) ∧ ks.length < 4000 ∧ ∀ q, H q = none → Q (.ref q) (upd H q (setHO (PySem.strKind P w) q ks))) ∨
  (∃ (a : Addr) (ks : List Int), xs = [.ref a] ∧ SqL K H a (ks.map V.int) ∧ ks.length < 4000 ∧ ∀ q, H q = none → Q (.ref q) (upd H q (setHO (PySem.intKind P w) q ks)))
theorem cr_set (hc : X.calm = true) : CallR X (.type "set") (rSetL X.prog X.w X.K) := by
  intro pins s σ H xs us Q I r h
  rcases h with h | h
  · exact cr_setKd (PySem.strKind X.prog X.w) hc (f := V.str) (fun k v ⟨t, e⟩ => by subst e; exact ⟨strKind_is _ _ _ _, rfl⟩) pins s σ H xs us Q I r h
  · exact cr_setKd (PySem.intKind X.prog X.w) hc (f := V.int) (fun k v ⟨t, e⟩ => by subst e; exact ⟨intKind_is _ _ _ _, rfl⟩) pins s σ H xs us Q I r h
theorem cr_sortSet (hc : X.calm = true) : CallR X (.builtin "sorted") (fun xs H Q => rSetS X.prog X.w xs H Q ∨ rSetI X.prog X.w xs H Q) := by
  intro pins s σ H xs us Q I r h
  rcases h with h | h
  · exact cr_sortSetS hc pins s σ H xs us Q I r h
  · exact cr_sortSetI hc pins s σ H xs us Q I r h
theorem cr_lenSets : CallR X (.builtin "len") (fun xs H Q => (∃ (a : Addr) (ks : List PySem.Str), xs = [.ref a] ∧ H a = some (setHO (PySem.strKind X.prog X.w) a ks) ∧ Q (.int (nub ks).length) H) ∨
    (∃ (a : Addr) (ks : List Int), xs = [.ref a] ∧ H a = some (setHO (PySem.intKind X.prog X.w) a ks) ∧ Q (.int (nub ks).length) H)) := by
  intro pins s σ H xs us Q I r h
  rcases h with h | h
  · exact cr_lenSet _ pins s σ H xs us Q I r h
  · exact cr_lenSet _ pins s σ H xs us Q I r h
/-- a set more, that nobody knows -/
theorem Post.set {K : PySem.W.Frag} {φ : Phi} {n : Nat} {H : Hp} {E : XK} {Q : VK} {r : Res PF.W} {q : Addr} {o : HO} (hq : H q = none) (p : Post K cls (rW K) φ n H E Q r) : Post K cls (rW K) φ n (upd H q o) E Q r :=
  Post.later p (Ext.refl _ _) (Nat.le_refl _) (keep_new hq)
theorem gc_sortSet : GrC bSortSet := fun ws h => by
  unfold bSortSet
  split
  · split
    · split
      · split
        · exact newL_grows _ _
        · split
          · exact newL_grows _ _
          · trivial
      · trivial
    · trivial
  · trivial
theorem gc_lenSet : GrC bLenSet := fun ws h => by
  unfold bLenSet
  split
  · split
    · split
      · split
        · exact Nat.le_refl _
        · split
          · exact Nat.le_refl _
          · trivial
      · trivial
    · trivial
  · trivial
theorem re_sortSet {p p2 pos pos2 : Pos} {e : Expr} {as : As} (hc : X.calm = true) (hg : Gl X "sorted") (hm : X.mg "sorted" = none) (hv : bootBuiltins "sorted" = some (.builtin "sorted")) (hg2 : Gl X "set") (hm2 : X.mg "set" = none) (hv2 : bootBuiltins "set" = some (.type "set")) (ha : RA X cls W [e] as)
    (he : starEach [e] X.env = (false, eval e X.env) :: starEach [] X.env := by rfl) (hpl : (backTo pos2 (starEach [] X.env)).any (·.1) = false := by rfl)
    (he2 : starEach [.Call (.Name "set" p2) [e] [] pos2] X.env = (false, eval (.Call (.Name "set" p2) [e] [] pos2) X.env) :: starEach [] X.env := by rfl) (hpl2 : (backTo pos (starEach [] X.env)).any (·.1) = false := by rfl) :
    RE X cls W (.Call (.Name "sorted" p) [.Call (.Name "set" p2) [e] [] pos2] [] pos) (dCall bSortSet as) :=
  ⟨(pe_callB (cr_sortSet hc) hg hm hv (pa_cons (pe_callTy (cr_set hc) hg2 hm2 hv2 ha.pa (by decide) (by decide) he hpl) pa_nil he2) (by decide) (by decide) he2 hpl2).imp fun σ H Q t =>
    (t.call ha.g).mono fun vs H1 ⟨φ, h, ws, E, C, rs, q⟩ => by
      unfold bSortSet at q
      split at q
      · cases rs with
        | cons r1 rs =>
          cases rs
          split at q
          · rename_i zs e1
            obtain ⟨a, vs', rfl, hs, hr⟩ := lstOf_at C r1 e1
            split at q
            · rename_i lt
              split at q
              · rename_i ss es
                obtain ⟨e2, ok⟩ := strsOf_at hr es
                have en := hr.length
                subst e2
                refine .inl ⟨a, ss.map sS, rfl, hs, by simp at en; simp; omega, fun b hb => .inl ⟨b, ss.map sS, rfl, upd_same, by simp at en; simp; omega, fun ys c nd mem srt hq => ?_⟩⟩
                have pm : ys.Perm ((nub ss).map sS) := by
                  rw [← nub_map (fun _ _ => sS_inj) ss]
                  exact nub_perm nd mem
                rw [sorted_is pm srt]
                exact post_lst (C.other hb) (strs_vr _ fun t ht => ok t (mem_nub.mp ((sortS_perm _).mem_iff.mp ht))) (q.set hb) c hq
              · split at q
                · rename_i is es
                  have e2 := intsOf_at hr es
                  have en := hr.length
                  subst e2
                  refine .inr ⟨a, is, rfl, hs, by simp at en; omega, fun b hb => .inr ⟨b, is, rfl, upd_same, by simp at en; omega, fun ys c nd mem srt hq => ?_⟩⟩
                  rw [sortI_of (nub_perm nd mem) srt]
                  exact post_lst (C.other hb) (ints_vrU _) (q.set hb) c hq
                · exact q.elim
            · exact q.elim
          · exact q.elim
      · exact q.elim, grow_call gc_sortSet ha.g⟩
theorem re_lenSet {p p2 pos pos2 : Pos} {e : Expr} {as : As} (hc : X.calm = true) (hg : Gl X "len") (hm : X.mg "len" = none) (hv : bootBuiltins "len" = some (.builtin "len")) (hg2 : Gl X "set") (hm2 : X.mg "set" = none) (hv2 : bootBuiltins "set" = some (.type "set")) (ha : RA X cls W [e] as)
    (he : starEach [e] X.env = (false, eval e X.env) :: starEach [] X.env := by rfl) (hpl : (backTo pos2 (starEach [] X.env)).any (·.1) = false := by rfl)
    (he2 : starEach [.Call (.Name "set" p2) [e] [] pos2] X.env = (false, eval (.Call (.Name "set" p2) [e] [] pos2) X.env) :: starEach [] X.env := by rfl) (hpl2 : (backTo pos (starEach [] X.env)).any (·.1) = false := by rfl) :
    RE X cls W (.Call (.Name "len" p) [.Call (.Name "set" p2) [e] [] pos2] [] pos) (dCall bLenSet as) :=
  ⟨(pe_callB cr_lenSets hg hm hv (pa_cons (pe_callTy (cr_set hc) hg2 hm2 hv2 ha.pa (by decide) (by decide) he hpl) pa_nil he2) (by decide) (by decide) he2 hpl2).imp fun σ H Q t =>
    (t.call ha.g).mono fun vs H1 ⟨φ, h, ws, E, C, rs, q⟩ => by
      unfold bLenSet at q
      split at q
      · cases rs with
        | cons r1 rs =>
          cases rs
          split at q
          · rename_i zs e1
            obtain ⟨a, vs', rfl, hs, hr⟩ := lstOf_at C r1 e1
            split at q
            · rename_i lt
              split at q
              · rename_i ss es
                obtain ⟨e2, ok⟩ := strsOf_at hr es
                have en := hr.length
                subst e2
                refine .inl ⟨a, ss.map sS, rfl, hs, by simp at en; simp; omega, fun b hb => .inl ⟨b, ss.map sS, rfl, upd_same, ?_⟩⟩
                rw [nub_map (fun _ _ => sS_inj) ss, List.length_map]
                exact rO_ok (C.other hb) (q.set hb) (.int _)
              · split at q
                · rename_i is es
                  have e2 := intsOf_at hr es
                  have en := hr.length
                  subst e2
                  exact .inr ⟨a, is, rfl, hs, by simp at en; omega, fun b hb => .inr ⟨b, is, rfl, upd_same, rO_ok (C.other hb) (q.set hb) (.int _)⟩⟩
                · exact q.elim
            · exact q.elim
          · exact q.elim
      · exact q.elim, grow_call gc_lenSet ha.g⟩
end
end PF
namespace PF
open PySem PySem.Spec PyProof.Rows L2
/-- the law's promise -/
def spLaw (K : PySem.W.Frag) : Sp := fun vs H Q _ => ∃ (a : Addr) (ns : List Int), vs = [.ref a] ∧ Only H ∧ SqL K H a (ns.map V.int) ∧ ns.length ≤ 63 ∧ ∀ H', Q (.bl true) H'
theorem ints_vr {K : PySem.W.Frag} {φ : Phi} {n : Nat} {H : Hp} : ∀ ns : List Int, VRs K φ n H (ns.map PF.W.int) (ns.map V.int)
  | [] => .nil
  | i :: ns => .cons (.int i) (ints_vr ns)
theorem law_imp {K : PySem.W.Frag} {cls : Cl} {f : Fn} (su : cls.su = none) (L : LawTrue f) : ∀ vs H Q E, spLaw K vs H Q E → SpI K cls f vs H Q E := by
  rintro vs H Q E ⟨a, ns, rfl, hO, hS, hl, q⟩
  obtain ⟨h, e⟩ := L ns hl
  refine ⟨⟨fun _ => 0, none, cls.f⟩, [], [.fl (ns.map PF.W.int)], ⟨fun i j hi => absurd hi (Nat.not_lt_zero _), su.symm, rfl, fun i c hc => by cases hc⟩, .cons (.fl ?_ (ints_vr ns)) .nil, ?_⟩
  · rcases hS with (hS | hS) | hS
    · rcases hO a with z | ⟨o, xs, z⟩
      · rw [z] at hS; cases hS
      · rw [z] at hS; cases hS
    · exact .inl hS
    · exact .inr hS
  · rw [e]
    intro φ' v H' _ _ _ r
    have r : VR K φ' h.length H' (.bl true) v := r
    cases r
    exact q H'
theorem spLaw_of {K : PySem.W.Frag} : ∀ (H : Hp) (a : Addr) (ns : List Int), ns.length ≤ 63 → Only H → SqL K H a (ns.map V.int) → spLaw K [.ref a] H (fun v _ => v = .bl true) fun _ _ _ => False :=
  fun H a ns hl hO hS => ⟨a, ns, rfl, hO, hS, hl, fun _ => rfl⟩
theorem cx_none {P : Program} {w : World} (H : Hp) (s : Shared) (e : Value) (s' : Shared) : L2.CX P w [] H s (fun _ _ _ => False) e s' → False := fun h => by
  obtain ⟨_, _, _, _, _, _, _, _, _, _, _, _, z⟩ := h
  exact z
/-- rec. of no depth -/
theorem fn_none {P : Program} {w : World} {K : PySem.W.Frag} {mg : PySem.Str → Option Value} {base : Heap} {cls : Cl} {x : PySem.Str} {st : Stmt} {ps : List PySem.Str} {f : Addr} {fd : FuncData} (R : RawFn K mg x st ps f fd) (k : Nat) : FnAt P w K mg base cls x k (fun _ _ => .stuck) :=
  ⟨⟨f, fd, ps, ⟨fun vs H Q E ⟨_, _, _, _, _, p⟩ => p.elim, fun A outer s H args us vs Q E hr e0 hb hv ⟨_, _, _, _, _, p⟩ => p.elim⟩, R.m, R.F.kp, R.b⟩, fun _ _ => trivial⟩
end PF
namespace PF
/-! ### lists as values -/
theorem beq_dec {α : Type} [BEq α] [LawfulBEq α] [DecidableEq α] (a b : α) : (a == b) = decide (a = b) := by
  by_cases e : a = b <;> simp [e]
section
variable {h h1 : Hs} {ρ : Env} {ws us : List W} {w u : W}
@[simp] theorem lstOf_fl : lstOf (.fl ws) h = some ws := (rfl)
@[simp] theorem seqOf_fl : seqOf (.fl ws) h = some ws := (rfl)
@[simp] theorem seqOf_tup : seqOf (.tup ws) h = some ws := (rfl)
@[simp] theorem bLen_fl : bLen [.fl ws] h = .ok (.int ws.length) h := (rfl)
@[simp] theorem bLen_tup : bLen [.tup ws] h = .ok (.int ws.length) h := (rfl)
@[simp] theorem stays_fl : stays [(.fl ws, ws)] h = true := by simp [stays]
theorem lstOf_ref {i : Nat} (e : h[i]? = some (.lst ws)) : lstOf (.ref i) h = some ws := by simp [lstOf, e]
theorem stays_at {i : Nat} (e : h[i]? = some (.lst ws)) : stays [(.ref i, ws)] h = true := by simp [stays, lstOf, e]
theorem oIx_fl {k : Nat} (e : ws[k]? = some w) : oIx (.fl ws) (.int (k : Int)) h = .ok w h := by
  show okO (atW ws (k : Int)) h = _
  rw [atW_nat e]
  rfl
theorem oIx_tup {k : Nat} (e : ws[k]? = some w) : oIx (.tup ws) (.int (k : Int)) h = .ok w h := by
  show okO (atW ws (k : Int)) h = _
  rw [atW_nat e]
  rfl
@[simp] theorem oIx_t0 : oIx (.tup (w :: ws)) (.int 0) h = .ok w h := oIx_tup (k := 0) rfl
@[simp] theorem oIx_t1 {a : W} : oIx (.tup (a :: w :: ws)) (.int 1) h = .ok w h := oIx_tup (k := 1) rfl
@[simp] theorem oIx_t2 {a b : W} : oIx (.tup (a :: b :: w :: ws)) (.int 2) h = .ok w h := oIx_tup (k := 2) rfl
@[simp] theorem oIx_t3 {a b c : W} : oIx (.tup (a :: b :: c :: w :: ws)) (.int 3) h = .ok w h := oIx_tup (k := 3) rfl
@[simp] theorem oIx_f0 : oIx (.fl (w :: ws)) (.int 0) h = .ok w h := oIx_fl (k := 0) rfl
@[simp] theorem oIx_f1 {a : W} : oIx (.fl (a :: w :: ws)) (.int 1) h = .ok w h := oIx_fl (k := 1) rfl
/-- the last of a list -/
theorem atW_last {α : Type} {xs : List α} {x : α} : atW (xs ++ [x]) (-1) = some x := by
  unfold atW ixW
  rw [if_neg (by omega), if_pos (by simp; omega)]
  have e : (-1 + ((xs ++ [x]).length : Int)).toNat = xs.length := by simp; omega
  rw [e]
  simp
def anyIt (w : W) (h1 : Hs) : Res It := match w with
  | .tup ws => .ok (ws, []) h1
  | .str s => .ok (s.map fun c => .str [c], []) h1
  | .fl ws => .ok (ws, [(.fl ws, ws)]) h1
  | .ref i => match h1[i]? with
    | some (.lst ws) => .ok (ws, [(.ref i, ws)]) h1
    | _ => .stuck
  | _ => .stuck
theorem iAny_b {d : D} : iAny d ρ h = (d ρ h).bind anyIt := (rfl)
@[simp] theorem anyIt_tup : anyIt (.tup ws) h = .ok (ws, []) h := (rfl)
@[simp] theorem anyIt_fl : anyIt (.fl ws) h = .ok (ws, [(.fl ws, ws)]) h := (rfl)
@[simp] theorem anyIt_str (s : List Nat) : anyIt (.str s) h = .ok (s.map fun c => .str [c], []) h := (rfl)
theorem iAny_fl {d : D} (e : d ρ h = .ok (.fl ws) h1) : iAny d ρ h = .ok (ws, [(.fl ws, ws)]) h1 := by
  simp [iAny, e]
theorem iAny_tup {d : D} (e : d ρ h = .ok (.tup ws) h1) : iAny d ρ h = .ok (ws, []) h1 := by
  simp [iAny, e]
theorem iAny_str {d : D} {s : List Nat} (e : d ρ h = .ok (.str s) h1) : iAny d ρ h = .ok (s.map fun c => .str [c], []) h1 := by
  simp [iAny, e]
theorem iAny_at {d : D} {i : Nat} (e : d ρ h = .ok (.ref i) h1) (ei : h1[i]? = some (.lst ws)) : iAny d ρ h = .ok (ws, [(.ref i, ws)]) h1 := by
  simp [iAny, e, ei]
theorem iEnum_fl {d : D} (e : d ρ h = .ok (.fl ws) h1) : iEnum d ρ h = .ok (enumW 0 ws, [(.fl ws, ws)]) h1 := by
  simp [iEnum, e]
theorem iRev_fl {d : D} (e : d ρ h = .ok (.fl ws) h1) : iRev d ρ h = .ok (ws.reverse, [(.fl ws, ws)]) h1 := by
  simp [iRev, e]
theorem iRng2_e {d e : D} {i j : Int} (e1 : d ρ h = .ok (.int i) h) (e2 : e ρ h = .ok (.int j) h) (hi : -(2 ^ 60) ≤ i ∧ i < 2 ^ 60) (hj : -(2 ^ 60) ≤ j ∧ j < 2 ^ 60) : iRng2 d e ρ h = .ok (rngW i (j - i).toNat, []) h := by
  unfold iRng2
  rw [e1, Res.bind_ok, e2, Res.bind_ok]
  have h1 : rOK i := ⟨by omega, by omega⟩
  have h2 : rOK j := ⟨by omega, by omega⟩
  simp [h1, h2]
theorem iRng1_i {d : D} {j : Int} (e1 : d ρ h = .ok (.int j) h1) (hj : -(2 ^ 60) ≤ j ∧ j < 2 ^ 60) : iRng1 d ρ h = .ok (rngW 0 j.toNat, []) h1 := by
  unfold iRng1
  rw [e1, Res.bind_ok]
  have h2 : rOK j := ⟨by omega, by omega⟩
  simp [h2]
/-! slices -/
def asP (w : W) (h : Hs) : Res (Option Int) := match w with
  | .int i => .ok (some i) h
  | _ => .stuck
@[simp] theorem asP_int (i : Int) (h : Hs) : asP (.int i) h = .ok (some i) h := (rfl)
theorem pAt_b {d : D} : pAt d ρ h = (d ρ h).bind asP := by
  unfold pAt
  cases d ρ h with
  | ok w h1 => cases w <;> exact Eq.refl _
  | exc c p h1 => exact Eq.refl _
  | stuck => exact Eq.refl _
theorem oSl_fl {lo hi : Option Int} : oSl (.fl ws) lo hi h = newL (cutW ws lo hi) h := by exact Eq.refl _
theorem oSl_tup {lo hi : Option Int} : oSl (.tup ws) lo hi h = .ok (.tup (cutW ws lo hi)) h := by exact Eq.refl _
theorem oSl_str {s : List Nat} {lo hi : Option Int} (hb : s.length ≤ bigL) : oSl (.str s) lo hi h = .ok (.str (cutW s lo hi)) h := if_pos hb
theorem cut_lo {α : Type} (ws : List α) (n : Nat) : cutW ws (some (n : Int)) none = ws.drop n := by
  unfold cutW sIxW
  have e1 : ¬ ((n : Int) < 0) := by omega
  simp only [if_neg e1, Int.toNat_natCast]
  rcases Nat.le_total n ws.length with e | e
  · rw [Nat.min_eq_left e, List.take_of_length_le (by rw [List.length_drop]; omega)]
  · rw [Nat.min_eq_right e, List.drop_length, List.drop_of_length_le e, List.take_nil]
theorem cut_hi {α : Type} (ws : List α) (n : Nat) : cutW ws none (some (n : Int)) = ws.take n := by
  unfold cutW sIxW
  have e1 : ¬ ((n : Int) < 0) := by omega
  simp only [if_neg e1, Int.toNat_natCast, Nat.sub_zero, List.drop_zero]
  rcases Nat.le_total n ws.length with e | e
  · rw [Nat.min_eq_left e]
  · rw [Nat.min_eq_right e, List.take_length, List.take_of_length_le e]
theorem cut_lohi {α : Type} (ws : List α) (m n : Nat) : cutW ws (some (m : Int)) (some (n : Int)) = (ws.take n).drop m := by
  unfold cutW sIxW
  have e1 : ¬ ((n : Int) < 0) := by omega
  have e2 : ¬ ((m : Int) < 0) := by omega
  simp only [if_neg e1, if_neg e2, Int.toNat_natCast, List.drop_take]
  rcases Nat.le_total m ws.length with e | e
  · rw [Nat.min_eq_left e]
    rcases Nat.le_total n ws.length with f | f
    · rw [Nat.min_eq_left f]
    · rw [Nat.min_eq_right f, List.take_of_length_le (i := n - m) (by rw [List.length_drop]; omega), List.take_of_length_le (by rw [List.length_drop]; omega)]
  · rw [Nat.min_eq_right e, List.drop_length, List.take_nil, List.drop_of_length_le e, List.take_nil]
/-! a list that grows, the last of the store -/
@[simp] theorem set_end (h : Hs) (c d : Cell) : (h ++ [c]).set h.length d = h ++ [d] := by
  rw [List.set_append_right _ _ (Nat.le_refl _), Nat.sub_self]
  rfl
@[simp] theorem kd_end (h : Hs) (ws : List W) : kdOf (.ref h.length) (h ++ [.lst ws]) = some .lst := by simp [kdOf]
theorem kd_at {i : Nat} (e : h[i]? = some (.lst ws)) : kdOf (.ref i) h = some .lst := by simp [kdOf, e]
theorem mApp_end (hb : ws.length < bigL) : mAppend (.ref h.length) [w] (h ++ [.lst ws]) = .ok .non (h ++ [.lst (ws ++ [w])]) := by
  simp [mAppend, hb]
theorem mApp_at {i : Nat} (e : h[i]? = some (.lst ws)) (hb : ws.length < bigL) : mAppend (.ref i) [w] h = .ok .non (h.set i (.lst (ws ++ [w]))) := by
  simp [mAppend, e, hb]
theorem dMeth_e {k : Kd} {m : W → List W → Hs → Res W} {a : D} {as : As} : dMeth k m a as ρ h = (a ρ h).bind fun x h1 => if kdOf x h1 = some k then (as ρ h1).bind fun xs h2 => m x xs h2 else .stuck := by exact Eq.refl _
@[simp] theorem bMax2_i (i j : Int) : bMax2 [.int i, .int j] h = .ok (.int (max i j)) h := by
  show Res.ok (W.int (if j > i then j else i)) h = _
  congr 2
  split <;> omega
@[simp] theorem bMin2_i (i j : Int) : bMin2 [.int i, .int j] h = .ok (.int (min i j)) h := by
  show Res.ok (W.int (if j < i then j else i)) h = _
  congr 2
  split <;> omega
@[simp] theorem newL_e (ws : List W) : newL ws h = .ok (.ref h.length) (h ++ [.lst ws]) := by exact Eq.refl _
@[simp] theorem sSub_e {d o i : D} {st : W → W → W → Hs → Option Hs} : sSub d o i st ρ h = onR (d ρ h) ρ fun v h1 => onR (o ρ h1) ρ fun x h2 => onR (i ρ h2) ρ fun y h3 => (match st x y v h3 with
  | some h4 => .nx ρ h4
  | none => .stuck) := by exact Eq.refl _
theorem stL_at {i k : Nat} {y : W} (e : h[i]? = some (.lst ws)) (hk : k < ws.length) : stL (.ref i) (.int (k : Int)) y h = some (h.set i (.lst (ws.set k y))) := by
  have : ixW ws.length (k : Int) = some k := by unfold ixW; rw [if_pos (by omega), if_pos (by omega)]; simp
  simp [stL, e, this]
theorem stL_0 {i : Nat} {a y : W} (e : h[i]? = some (.lst (a :: ws))) : stL (.ref i) (.int 0) y h = some (h.set i (.lst (y :: ws))) := by
  simp [stL, e, ixW]
theorem mapO_fz {h' : Hs} {n d : Nat} : ∀ {ws : List W}, W.pures ws = true → mapO (fzW h' n d) ws = some ws
  | [], _ => rfl
  | w :: ws, q => by
    rw [pures_cons, Bool.and_eq_true] at q
    rw [mapO, fz_pure q.1, mapO_fz q.2]
    rfl
theorem fz_ref {h' : Hs} {n d i : Nat} {ws : List W} (hi : n ≤ i) (e : h'[i]? = some (.lst ws)) (hp : W.pures ws = true) : fzW h' n (d + 1) (.ref i) = some (.fl ws) := by
  have hn : ¬ i < n := by omega
  simp [fzW, hn, e, mapO_fz hp]
theorem gc_tup2T {h h' : Hs} {i j : Nat} {ws us : List W} (t : tame h h' = true) (hi : h.length ≤ i) (hj : h.length ≤ j) (e1 : h'[i]? = some (.lst ws)) (e2 : h'[j]? = some (.lst us)) (p1 : W.pures ws = true) (p2 : W.pures us = true) :
    gc h (.ok (.tup [.ref i, .ref j]) h') = .ok (.tup [.fl ws, .fl us]) (h'.take h.length) := by
  unfold gc
  dsimp only
  rw [if_pos t]
  have : fzW h' h.length 60 (.tup [.ref i, .ref j]) = some (.tup [.fl ws, .fl us]) := by
    show fzW h' h.length (58 + 1 + 1) (.tup [.ref i, .ref j]) = _
    unfold fzW
    simp [fz_ref hi e1 p1, fz_ref hj e2 p2]
  rw [this]
/-! data -/
theorem intsOf_map (is : List Int) : intsOf (is.map W.int) = some is := by
  induction is with
  | nil => rfl
  | cons i is ih => simp [intsOf, ih]
theorem blsOf_map (is : List Bool) : blsOf (is.map W.bl) = some is := by
  induction is with
  | nil => rfl
  | cons i is ih => simp [blsOf, ih]
theorem strsOf_map (is : List (List Nat)) : strsOf (is.map W.str) = some is := by
  induction is with
  | nil => rfl
  | cons i is ih => simp [strsOf, ih]
theorem bSum_fl (is : List Int) : bSum [.fl (is.map W.int)] h = .ok (.int is.sum) h := by simp [bSum, intsOf_map]
theorem bAll_fl (is : List Bool) : bAll [.fl (is.map W.bl)] h = .ok (.bl (is.all id)) h := by simp [bAll, blsOf_map]
theorem bAny_fl (is : List Bool) : bAny [.fl (is.map W.bl)] h = .ok (.bl (is.any id)) h := by simp [bAny, blsOf_map]
@[simp] theorem maxD_nil {d : Int} : oMaxD (.fl []) (.int d) h = .ok (.int d) h := (rfl)
theorem maxD_cons {d i : Int} (is : List Int) : oMaxD (.fl (.int i :: is.map W.int)) (.int d) h = .ok (.int (maxI (i :: is))) h := by
  have := intsOf_map (i :: is)
  simp only [List.map_cons] at this
  simp [oMaxD, this]
theorem bMax_fl (i : Int) (is : List Int) : bMax [.fl ((i :: is).map W.int)] h = .ok (.int (maxI (i :: is))) h := by
  unfold bMax
  dsimp only
  rw [lstOf_fl, Option.bind_some, intsOf_map]
theorem bMin_fl (i : Int) (is : List Int) : bMin [.fl ((i :: is).map W.int)] h = .ok (.int (minI (i :: is))) h := by
  unfold bMin
  dsimp only
  rw [lstOf_fl, Option.bind_some, intsOf_map]
theorem bSorted_fl (ss : List (List Nat)) (hl : ss.length < 64) : bSorted [.fl (ss.map W.str)] h = newL ((sortS ss).map W.str) h := by
  simp [bSorted, dctOf, strsOf_map, hl]
theorem bList_fl : bList [.fl ws] h = newL ws h := rfl
theorem bTuple_fl : bTuple [.fl ws] h = .ok (.tup ws) h := rfl
theorem bTuple_at {i : Nat} (ei : h[i]? = some (.lst ws)) : bTuple [.ref i] h = .ok (.tup ws) h := by simp [bTuple, lstOf, ei]
/-! values without truths, to some depth -/
def W.pl : Nat → W → Bool
  | _, .non => true
  | _, .int _ => true
  | _, .str _ => true
  | n + 1, .tup ws => ws.all (W.pl n)
  | n + 1, .fl ws => ws.all (W.pl n)
  | _, _ => false
@[simp] theorem pl_non (n : Nat) : W.pl n .non = true := by cases n <;> rfl
@[simp] theorem pl_int (n : Nat) (i : Int) : W.pl n (.int i) = true := by cases n <;> rfl
@[simp] theorem pl_str (n : Nat) (i : List Nat) : W.pl n (.str i) = true := by cases n <;> rfl
@[simp] theorem pl_tup (n : Nat) (ws : List W) : W.pl (n + 1) (.tup ws) = ws.all (W.pl n) := (rfl)
@[simp] theorem pl_fl (n : Nat) (ws : List W) : W.pl (n + 1) (.fl ws) = ws.all (W.pl n) := (rfl)
theorem pl_le : ∀ (n m : Nat) (w : W), n ≤ m → W.pl n w = true → W.pl m w = true
  | 0, m, w, _, p => by cases w <;> cases m <;> first | rfl | simp [W.pl] at p
  | n + 1, m + 1, w, l, p => by
    cases w with
    | tup ws => rw [pl_tup, List.all_eq_true] at p ⊢; exact fun x hx => pl_le n m x (by omega) (p x hx)
    | fl ws => rw [pl_fl, List.all_eq_true] at p ⊢; exact fun x hx => pl_le n m x (by omega) (p x hx)
    | _ => first | rfl | simp [W.pl] at p
  | n + 1, 0, w, l, p => by omega
theorem da_some : ∀ (n : Nat) (w : W), W.pl n w = true → ∃ d, daOf h n w = some d
  | 0, w, p => by cases w <;> first | exact ⟨_, rfl⟩ | simp [W.pl] at p
  | n + 1, w, p => by
    have all : ∀ ws : List W, ws.all (W.pl n) = true → ∃ ds, mapO (daOf h n) ws = some ds := by
      intro ws
      induction ws with
      | nil => intro _; exact ⟨[], rfl⟩
      | cons w ws ih =>
        intro q
        rw [List.all_cons, Bool.and_eq_true] at q
        obtain ⟨ds, e2⟩ := ih q.2
        obtain ⟨d, e1⟩ := da_some n w q.1
        exact ⟨d :: ds, by rw [mapO, e1, e2]; rfl⟩
    cases w with
    | tup ws => obtain ⟨ds, e⟩ := all ws p; exact ⟨.tup ds, by rw [daOf, e]; rfl⟩
    | fl ws => obtain ⟨ds, e⟩ := all ws p; exact ⟨.lst ds, by rw [daOf, e]; rfl⟩
    | _ => first | exact ⟨_, rfl⟩ | simp [W.pl] at p
theorem da_eq : ∀ (n : Nat) (w u : W) (d e : Da), W.pl n w = true → W.pl n u = true → daOf h n w = some d → daOf h n u = some e → Da.eqB d e = decide (w = u)
  | 0, w, u, d, e, p, q, hd, he => by
    cases w <;> first
      | (simp [W.pl] at p; done)
      | (cases u <;> first
        | (simp [W.pl] at q; done)
        | (cases hd; cases he; simp [Da.eqB]; done)
        | (cases hd; cases he; rw [Da.eqB]; simp only [W.str.injEq, W.int.injEq]; exact beq_dec ..))
  | n + 1, w, u, d, e, p, q, hd, he => by
    have all : ∀ (ws us : List W) (ds es : List Da), ws.all (W.pl n) = true → us.all (W.pl n) = true → mapO (daOf h n) ws = some ds → mapO (daOf h n) us = some es → Da.eqL ds es = decide (ws = us) := by
      intro ws
      induction ws with
      | nil =>
        intro us ds es _ _ e1 e2
        cases e1
        cases us with
        | nil => cases e2; rfl
        | cons u us =>
          rw [mapO] at e2
          obtain ⟨b, e1, e2⟩ := Option.bind_eq_some_iff.mp e2
          obtain ⟨bs, e3, e2⟩ := Option.bind_eq_some_iff.mp e2
          cases e2
          simp [Da.eqL]
      | cons w ws ih =>
        intro us ds es hw hu e1 e2
        rw [mapO] at e1
        obtain ⟨b, e3, e1⟩ := Option.bind_eq_some_iff.mp e1
        obtain ⟨bs, e4, e1⟩ := Option.bind_eq_some_iff.mp e1
        cases e1
        rw [List.all_cons, Bool.and_eq_true] at hw
        cases us with
        | nil => cases e2; simp [Da.eqL]
        | cons u us =>
          rw [mapO] at e2
          obtain ⟨c, e5, e2⟩ := Option.bind_eq_some_iff.mp e2
          obtain ⟨cs, e6, e2⟩ := Option.bind_eq_some_iff.mp e2
          cases e2
          rw [List.all_cons, Bool.and_eq_true] at hu
          rw [Da.eqL, da_eq n w u b c hw.1 hu.1 e3 e5, ih us bs cs hw.2 hu.2 e4 e6]
          by_cases a : w = u <;> by_cases b : ws = us <;> simp [a, b]
    cases w with
    | tup ws =>
      rw [daOf] at hd
      obtain ⟨ds, h1, rfl⟩ := Option.map_eq_some_iff.mp hd
      cases u with
      | tup us =>
        rw [daOf] at he
        obtain ⟨es, h2, rfl⟩ := Option.map_eq_some_iff.mp he
        rw [Da.eqB, all ws us ds es p q h1 h2]
        simp
      | fl us =>
        rw [daOf] at he
        obtain ⟨es, h2, rfl⟩ := Option.map_eq_some_iff.mp he
        simp [Da.eqB]
      | _ => first | (cases he; simp [Da.eqB]; done) | (simp [W.pl] at q; done)
    | fl ws =>
      rw [daOf] at hd
      obtain ⟨ds, h1, rfl⟩ := Option.map_eq_some_iff.mp hd
      cases u with
      | tup us =>
        rw [daOf] at he
        obtain ⟨es, h2, rfl⟩ := Option.map_eq_some_iff.mp he
        simp [Da.eqB]
      | fl us =>
        rw [daOf] at he
        obtain ⟨es, h2, rfl⟩ := Option.map_eq_some_iff.mp he
        rw [Da.eqB, all ws us ds es p q h1 h2]
        simp
      | _ => first | (cases he; simp [Da.eqB]; done) | (simp [W.pl] at q; done)
    | _ => first
      | (simp [W.pl] at p; done)
      | (cases hd
         cases u with
         | tup us =>
           rw [daOf] at he
           obtain ⟨es, h2, rfl⟩ := Option.map_eq_some_iff.mp he
           simp [Da.eqB]
         | fl us =>
           rw [daOf] at he
           obtain ⟨es, h2, rfl⟩ := Option.map_eq_some_iff.mp he
           simp [Da.eqB]
         | _ => first | (simp [W.pl] at q; done) | (cases he; simp [Da.eqB]; done) | (cases he; rw [Da.eqB]; simp only [W.str.injEq, W.int.injEq]; exact beq_dec ..))
theorem da_pl (n : Nat) (w u : W) (p : W.pl n w = true) (q : W.pl n u = true) : ∃ d e, daOf h n w = some d ∧ daOf h n u = some e ∧ Da.eqB d e = decide (w = u) := by
  obtain ⟨d, e1⟩ := da_some (h := h) n w p
  obtain ⟨e, e2⟩ := da_some (h := h) n u q
  exact ⟨d, e, e1, e2, da_eq n w u d e p q e1 e2⟩
theorem eqW_pl {n : Nat} (hn : n ≤ deepest) (p : W.pl n w = true) (q : W.pl n u = true) : eqW w u h = some (decide (w = u)) := by
  obtain ⟨d, e, e1, e2, e3⟩ := da_pl (h := h) deepest w u (pl_le n _ w hn p) (pl_le n _ u hn q)
  simp [eqW, e1, e2, e3]
theorem oEq_pl {n : Nat} (hn : n ≤ deepest) (p : W.pl n w = true) (q : W.pl n u = true) : oEq w u h = .ok (.bl (decide (w = u))) h := by
  simp [oEq, eqW_pl hn p q]
theorem oNe_pl {n : Nat} (hn : n ≤ deepest) (p : W.pl n w = true) (q : W.pl n u = true) : oNe w u h = .ok (.bl (!decide (w = u))) h := by
  simp [oNe, eqW_pl hn p q]
@[simp] theorem oEq_s (a b : List Nat) : oEq (.str a) (.str b) h = .ok (.bl (decide (a = b))) h := by
  rw [oEq_pl (n := 0) (by decide) rfl rfl]; simp
@[simp] theorem oNe_s (a b : List Nat) : oNe (.str a) (.str b) h = .ok (.bl (!decide (a = b))) h := by
  rw [oNe_pl (n := 0) (by decide) rfl rfl]; simp
@[simp] theorem oEq_b (a b : Bool) : oEq (.bl a) (.bl b) h = .ok (.bl (a == b)) h := by simp [oEq, eqW, Da.eqB]
@[simp] theorem oNe_b (a b : Bool) : oNe (.bl a) (.bl b) h = .ok (.bl (!(a == b))) h := by simp [oNe, eqW, Da.eqB]
/-- a live list compares as its content -/
theorem daOf_at {i n : Nat} (ei : h[i]? = some (.lst ws)) : daOf h (n + 1) (.ref i) = daOf h (n + 1) (.fl ws) := by
  simp [daOf, ei]
theorem eqW_atL {i : Nat} (ei : h[i]? = some (.lst ws)) : eqW (.ref i) u h = eqW (.fl ws) u h := by
  unfold eqW
  rw [show deepest = 59 + 1 from rfl, daOf_at ei]
theorem eqW_atR {i : Nat} (ei : h[i]? = some (.lst ws)) : eqW w (.ref i) h = eqW w (.fl ws) h := by
  unfold eqW
  rw [show deepest = 59 + 1 from rfl, daOf_at ei]
/-! membership -/
theorem inF_str' (n : List Nat) : ∀ ss : List (List Nat), inF (.str n) (ss.map W.str) = some (decide (n ∈ ss))
  | [] => by simp [inF]
  | s :: ss => by
    rw [List.map_cons, inF, inF_str' n ss, eqF]
    simp only [List.mem_cons]
    by_cases e : s = n
    · subst e; simp
    · have e' : ¬ n = s := fun z => e z.symm
      simp [e, e']
theorem oIn_strs (n : List Nat) (ss : List (List Nat)) : oIn (.str n) (.fl (ss.map W.str)) h = .ok (.bl (decide (n ∈ ss))) h := by
  have e : inA (.str n) (.fl (ss.map W.str)) h = some (decide (n ∈ ss)) := by simp [inA, dctOf, flatF, inF_str']
  simp [oIn, e]
theorem oNin_strs (n : List Nat) (ss : List (List Nat)) : oNin (.str n) (.fl (ss.map W.str)) h = .ok (.bl (!decide (n ∈ ss))) h := by
  have e : inA (.str n) (.fl (ss.map W.str)) h = some (decide (n ∈ ss)) := by simp [inA, dctOf, flatF, inF_str']
  simp [oNin, e]
theorem oIn_strsAt {i : Nat} (n : List Nat) (ss : List (List Nat)) (ei : h[i]? = some (.lst (ss.map W.str))) : oIn (.str n) (.ref i) h = .ok (.bl (decide (n ∈ ss))) h := by
  have e : inA (.str n) (.ref i) h = some (decide (n ∈ ss)) := by simp [inA, dctOf, ei, flatF, seqOf, inF_str']
  simp [oIn, e]
theorem oNin_strsAt {i : Nat} (n : List Nat) (ss : List (List Nat)) (ei : h[i]? = some (.lst (ss.map W.str))) : oNin (.str n) (.ref i) h = .ok (.bl (!decide (n ∈ ss))) h := by
  have e : inA (.str n) (.ref i) h = some (decide (n ∈ ss)) := by simp [inA, dctOf, ei, flatF, seqOf, inF_str']
  simp [oNin, e]
theorem mapO_da {n : Nat} : ∀ {us : List W}, us.all (W.pl n) = true → ∃ ds, mapO (daOf h n) us = some ds ∧ ∀ w d, W.pl n w = true → daOf h n w = some d → anyD d ds = decide (w ∈ us)
  | [], _ => ⟨[], rfl, fun _ _ _ _ => rfl⟩
  | u :: us, hu => by
    rw [List.all_cons, Bool.and_eq_true] at hu
    obtain ⟨ds, e1, q⟩ := mapO_da hu.2
    obtain ⟨d, _, e2, _, _⟩ := da_pl (h := h) n u u hu.1 hu.1
    refine ⟨d :: ds, by rw [mapO, e2, e1]; rfl, fun w e pw ew => ?_⟩
    obtain ⟨d', e', e3, e4, e5⟩ := da_pl (h := h) n u w hu.1 pw
    rw [e2] at e3
    rw [ew] at e4
    cases e3
    cases e4
    have q1 : ds.any (fun z => Da.eqB z e) = decide (w ∈ us) := q w e pw ew
    show (d :: ds).any (fun z => Da.eqB z e) = _
    rw [List.any_cons, e5, q1]
    simp only [List.mem_cons]
    by_cases a : u = w
    · subst a; simp
    · have a' : ¬ w = u := fun z => a z.symm
      simp [a, a']
/-- is it in there: values without truths, no flat one sought -/
theorem oIn_pl (hf : flatF w = false) (p : W.pl 59 w = true) (q : us.all (W.pl 59) = true) : oIn w (.fl us) h = .ok (.bl (decide (w ∈ us))) h := by
  obtain ⟨ds, e1, k⟩ := mapO_da (h := h) q
  obtain ⟨d, _, e2, _, _⟩ := da_pl (h := h) 60 w w (pl_le 59 60 w (by omega) p) (pl_le 59 60 w (by omega) p)
  obtain ⟨d', _, e3, _, _⟩ := da_pl (h := h) 59 w w p p
  have e4 : d = d' := by
    have key : ∀ (n : Nat) (w : W) (d : Da), W.pl n w = true → daOf h n w = some d → daOf h (n + 1) w = some d := by
      intro n
      induction n with
      | zero => intro w d p e; cases w <;> first | exact e | simp [W.pl] at p
      | succ n ih =>
        have all : ∀ (ws : List W) (ds : List Da), ws.all (W.pl n) = true → mapO (daOf h n) ws = some ds → mapO (daOf h (n + 1)) ws = some ds := by
          intro ws
          induction ws with
          | nil => intro ds _ e; exact e
          | cons w ws ihw =>
            intro ds p e
            rw [List.all_cons, Bool.and_eq_true] at p
            rw [mapO] at e
            obtain ⟨b, e1, e⟩ := Option.bind_eq_some_iff.mp e
            obtain ⟨bs, e2, e⟩ := Option.bind_eq_some_iff.mp e
            cases e
            rw [mapO, ih w b p.1 e1, ihw bs p.2 e2]
            rfl
        intro w d p e
        cases w with
        | tup ws =>
          rw [daOf] at e
          obtain ⟨ds, e1, rfl⟩ := Option.map_eq_some_iff.mp e
          rw [daOf, all ws ds p e1]
          rfl
        | fl ws =>
          rw [daOf] at e
          obtain ⟨ds, e1, rfl⟩ := Option.map_eq_some_iff.mp e
          rw [daOf, all ws ds p e1]
          rfl
        | _ => first | exact e | simp [W.pl] at p
    have := key 59 w d' p e3
    rw [e2] at this
    exact Option.some.inj this
  subst e4
  have e5 : daOf h deepest (.fl us) = some (.lst ds) := by
    rw [show deepest = 59 + 1 from rfl, daOf, e1]
    rfl
  have e6 : inA w (.fl us) h = some (decide (w ∈ us)) := by
    unfold inA
    have e2' : daOf h deepest w = some d := e2
    simp only [dctOf, hf, e2', e5, k w d p e3]
    simp
  unfold oIn
  split
  · simp [flatF] at hf
  · rw [e6]
/-! ### loops -/
end
/-- a loop over values x, the state s -/
theorem forL_st {α S : Type} {enc : α → W} {g : List (W × List W)} {tg : Tg} {b : Sm} (R : S → Env → Hs → Prop) (f : S → α → S) :
    ∀ (xs : List α) (s : S) (ρ : Env) (h : Hs), R s ρ h → (∀ s ρ h, R s ρ h → stays g h = true) →
    (∀ s x ρ h, x ∈ xs → R s ρ h → ∃ ρ1, tg.run (enc x) ρ = some ρ1 ∧ ((∃ ρ2 h2, b ρ1 h = .nx ρ2 h2 ∧ R (f s x) ρ2 h2) ∨ ∃ ρ2 h2, b ρ1 h = .ct ρ2 h2 ∧ R (f s x) ρ2 h2)) →
    ∃ ρ' h', forL g tg b (xs.map enc) ρ h = .nx ρ' h' ∧ R (xs.foldl f s) ρ' h'
  | [], s, ρ, h, r, hst, _ => ⟨ρ, h, by rw [List.map_nil, forL, if_pos (hst _ _ _ r)], r⟩
  | x :: xs, s, ρ, h, r, hst, step => by
    obtain ⟨ρ1, e1, q⟩ := step s x ρ h (List.mem_cons_self ..) r
    rw [List.map_cons, forL, if_pos (hst _ _ _ r), e1, onO_some]
    rcases q with ⟨ρ2, h2, e2, r2⟩ | ⟨ρ2, h2, e2, r2⟩
    · rw [e2]
      exact forL_st R f xs (f s x) ρ2 h2 r2 hst fun s y ρ h hy => step s y ρ h (List.mem_cons_of_mem _ hy)
    · rw [e2]
      exact forL_st R f xs (f s x) ρ2 h2 r2 hst fun s y ρ h hy => step s y ρ h (List.mem_cons_of_mem _ hy)
/-- .. that may end early: f says the next state, or the end's name -/
def foldE {α S B : Type} (f : S → α → S ⊕ B) : List α → S → S ⊕ B
  | [], s => .inl s
  | x :: xs, s => match f s x with
    | .inl s' => foldE f xs s'
    | .inr b => .inr b
def Out.ends : Out → Bool
  | .ret _ _ => true
  | .exc _ _ _ _ => true
  | _ => false
theorem forL_ex {α S B : Type} {enc : α → W} {g : List (W × List W)} {tg : Tg} {b : Sm} (R : S → Env → Hs → Prop) (f : S → α → S ⊕ B) (E : B → Out → Prop) (hE : ∀ b o, E b o → o.ends = true) :
    ∀ (xs : List α) (s : S) (ρ : Env) (h : Hs), R s ρ h → (∀ s ρ h, R s ρ h → stays g h = true) →
    (∀ s x ρ h, x ∈ xs → R s ρ h → ∃ ρ1, tg.run (enc x) ρ = some ρ1 ∧ match f s x with
      | .inl s' => ∃ ρ2 h2, (b ρ1 h = .nx ρ2 h2 ∨ b ρ1 h = .ct ρ2 h2) ∧ R s' ρ2 h2
      | .inr z => E z (b ρ1 h)) →
    match foldE f xs s with
      | .inl s' => ∃ ρ' h', forL g tg b (xs.map enc) ρ h = .nx ρ' h' ∧ R s' ρ' h'
      | .inr z => E z (forL g tg b (xs.map enc) ρ h)
  | [], s, ρ, h, r, hst, _ => ⟨ρ, h, by rw [List.map_nil, forL, if_pos (hst _ _ _ r)], r⟩
  | x :: xs, s, ρ, h, r, hst, step => by
    obtain ⟨ρ1, e1, q⟩ := step s x ρ h (List.mem_cons_self ..) r
    rw [List.map_cons, forL, if_pos (hst _ _ _ r), e1, onO_some, foldE]
    cases hf : f s x with
    | inl s' =>
      rw [hf] at q
      obtain ⟨ρ2, h2, e2, r2⟩ := q
      have := forL_ex R f E hE xs s' ρ2 h2 r2 hst fun s y ρ h hy => step s y ρ h (List.mem_cons_of_mem _ hy)
      rcases e2 with e2 | e2
      · rw [e2]; exact this
      · rw [e2]; exact this
    | inr z =>
      rw [hf] at q
      have q : E z (b ρ1 h) := q
      have hz := hE _ _ q
      show E z _
      revert q hz
      cases b ρ1 h with
      | ret w h2 => exact fun q _ => q
      | exc c p ρ2 h2 => exact fun q _ => q
      | _ => exact fun _ hz => by simp [Out.ends] at hz
/-- a comprehension that leaves the store alone: a new list -/
theorem comp_lz {α : Type} {it : I} {tg : Tg} {t : T} {e : D} {own : List Nat} {ρ : Env} {h : Hs} {g : List (W × List W)} (enc f : α → W) (p : α → Bool) (xs : List α) (hit : it ρ h = .ok (xs.map enc, g) h) (hg : ∀ acc, stays g (h ++ [.lst acc]) = true) (hb : xs.length ≤ bigL)
    (he : ∀ x, x ∈ xs → ∃ ρ1, tg.run (enc x) (wipe ρ own) = some ρ1 ∧ ∀ acc, t ρ1 (h ++ [.lst acc]) = .ok (p x) (h ++ [.lst acc]) ∧ (p x = true → e ρ1 (h ++ [.lst acc]) = .ok (f x) (h ++ [.lst acc]))) :
    dComp it tg t e own ρ h = .ok (.ref h.length) (h ++ [.lst ((xs.filter p).map f)]) := by
  have main : ∀ (ys : List α) (acc : List W), acc.length + ys.length ≤ bigL → (∀ y, y ∈ ys → y ∈ xs) → compL g h.length tg t e (ys.map enc) (wipe ρ own) (h ++ [.lst acc]) = .ok (.ref h.length) (h ++ [.lst (acc ++ (ys.filter p).map f)]) := by
    intro ys
    induction ys with
    | nil => intro acc _ _; simp [compL, hg]
    | cons y ys ih =>
      intro acc hl hy
      obtain ⟨ρ1, e1, e2⟩ := he y (hy y (List.mem_cons_self ..))
      obtain ⟨e3, e4⟩ := e2 acc
      rw [List.map_cons, compL, if_pos (hg acc), e1]
      dsimp only
      rw [e3, Res.noX_ok, Res.bind_ok]
      rw [List.length_cons] at hl
      cases hc : p y with
      | true =>
        have ln : acc.length < bigL := by omega
        have ih' := ih (acc ++ [f y]) (by simp; omega) fun z hz => hy z (List.mem_cons_of_mem _ hz)
        rw [if_pos rfl, e4 hc, Res.noX_ok, Res.bind_ok]
        simp [ln, ih', List.filter_cons, hc]
      | false =>
        have ih' := ih acc (by omega) fun z hz => hy z (List.mem_cons_of_mem _ hz)
        rw [if_neg Bool.false_ne_true]
        simp [ih', List.filter_cons, hc]
  unfold dComp
  rw [hit, Res.bind_ok]
  dsimp only
  rw [main xs [] (by simpa using hb) fun _ z => z, List.nil_append]
theorem comp_lm {α : Type} {it : I} {tg : Tg} {e : D} {own : List Nat} {ρ : Env} {h : Hs} {g : List (W × List W)} (enc f : α → W) (xs : List α) (hit : it ρ h = .ok (xs.map enc, g) h) (hg : ∀ acc, stays g (h ++ [.lst acc]) = true) (hb : xs.length ≤ bigL)
    (he : ∀ x, x ∈ xs → ∃ ρ1, tg.run (enc x) (wipe ρ own) = some ρ1 ∧ ∀ acc, e ρ1 (h ++ [.lst acc]) = .ok (f x) (h ++ [.lst acc])) :
    dComp it tg tYes e own ρ h = .ok (.ref h.length) (h ++ [.lst (xs.map f)]) := by
  have := comp_lz (t := tYes) enc f (fun _ => true) xs hit hg hb fun x hx => by
    obtain ⟨ρ1, e1, e2⟩ := he x hx
    exact ⟨ρ1, e1, fun acc => ⟨rfl, fun _ => e2 acc⟩⟩
  rwa [List.filter_eq_self.mpr (fun _ _ => rfl)] at this
theorem pures_map {α : Type} {f : α → W} : ∀ {xs : List α}, (∀ x, x ∈ xs → (f x).pure = true) → W.pures (xs.map f) = true
  | [], _ => rfl
  | x :: xs, q => by
    rw [List.map_cons, pures_cons, q x (List.mem_cons_self ..), pures_map fun y hy => q y (List.mem_cons_of_mem _ hy)]
    rfl
/-- .. as a value -/
theorem comp_gz {α : Type} {it : I} {tg : Tg} {t : T} {e : D} {own : List Nat} {ρ : Env} {h : Hs} {g : List (W × List W)} (enc f : α → W) (p : α → Bool) (xs : List α) (hit : it ρ h = .ok (xs.map enc, g) h) (hg : ∀ acc, stays g (h ++ [.lst acc]) = true) (hb : xs.length ≤ bigL)
    (hp : ∀ x, x ∈ xs → p x = true → (f x).pure = true)
    (he : ∀ x, x ∈ xs → ∃ ρ1, tg.run (enc x) (wipe ρ own) = some ρ1 ∧ ∀ acc, t ρ1 (h ++ [.lst acc]) = .ok (p x) (h ++ [.lst acc]) ∧ (p x = true → e ρ1 (h ++ [.lst acc]) = .ok (f x) (h ++ [.lst acc]))) :
    dGz (dComp it tg t e own) ρ h = .ok (.fl ((xs.filter p).map f)) h := by
  rw [dGz_e, comp_lz enc f p xs hit hg hb he]
  exact gc_lst (Nat.le_refl _) (by simp) (pures_map fun x hx => by
    rw [List.mem_filter] at hx
    exact hp x hx.1 hx.2)
theorem comp_gm {α : Type} {it : I} {tg : Tg} {e : D} {own : List Nat} {ρ : Env} {h : Hs} {g : List (W × List W)} (enc f : α → W) (xs : List α) (hit : it ρ h = .ok (xs.map enc, g) h) (hg : ∀ acc, stays g (h ++ [.lst acc]) = true) (hb : xs.length ≤ bigL)
    (hp : ∀ x, x ∈ xs → (f x).pure = true)
    (he : ∀ x, x ∈ xs → ∃ ρ1, tg.run (enc x) (wipe ρ own) = some ρ1 ∧ ∀ acc, e ρ1 (h ++ [.lst acc]) = .ok (f x) (h ++ [.lst acc])) :
    dGz (dComp it tg tYes e own) ρ h = .ok (.fl (xs.map f)) h := by
  have := comp_gz (t := tYes) enc f (fun _ => true) xs hit hg hb (fun x hx _ => hp x hx) fun x hx => by
    obtain ⟨ρ1, e1, e2⟩ := he x hx
    exact ⟨ρ1, e1, fun acc => ⟨rfl, fun _ => e2 acc⟩⟩
  rwa [List.filter_eq_self.mpr (fun _ _ => rfl)] at this
theorem rngW_map (lo : Int) (n : Nat) : rngW lo n = (List.range n).map fun (k : Nat) => W.int (lo + k) := rfl
theorem lim100 (j : Int) (h0 : 0 < j) (h1 : j < 2 ^ 100) : limbs j ≤ 300 := limbs_small (n := 100) (by omega) (by omega)
/-- a divisor of few figures -/
theorem oDivS {i j : Int} {h : Hs} (h0 : 0 < j) (h1 : j < 2 ^ 100) : oDiv (.int i) (.int j) h = .ok (.int (i / j)) h := oDivP h0 (lim100 j h0 h1)
/-! ### while -/
theorem FUEL_big {n : Nat} (h : n < 2 ^ 9000) : n < FUEL := by
  unfold FUEL
  exact Nat.lt_of_lt_of_le h (Nat.pow_le_pow_right (by omega) (by omega))
theorem whileF_mono {t : T} {b : Sm} : ∀ (n m : Nat) (ρ : Env) (h : Hs) (o : Out), whileF t b n ρ h = o → o ≠ .stuck → n ≤ m → whileF t b m ρ h = o
  | 0, _, _, _, _, e, hs, _ => absurd e.symm hs
  | n + 1, 0, _, _, _, _, _, hl => absurd hl (by omega)
  | n + 1, m + 1, ρ, h, o, e, hs, hl => by
    rw [whileF] at e ⊢
    cases ht : t ρ h with
    | stuck => rw [ht] at e; exact absurd e.symm hs
    | exc c p h1 => rw [ht] at e; exact e
    | ok c h1 =>
      rw [ht] at e
      rw [onR_ok] at e ⊢
      cases c with
      | false => exact e
      | true =>
        rw [if_pos rfl] at e ⊢
        cases hb : b ρ h1 with
        | nx ρ2 h2 => rw [hb] at e; exact whileF_mono n m ρ2 h2 o e hs (by omega)
        | ct ρ2 h2 => rw [hb] at e; exact whileF_mono n m ρ2 h2 o e hs (by omega)
        | bk ρ2 h2 => rw [hb] at e; exact e
        | ret w h2 => rw [hb] at e; exact e
        | exc c p ρ2 h2 => rw [hb] at e; exact e
        | stuck => rw [hb] at e; exact e
theorem sWhile_of {t : T} {b : Sm} {n : Nat} {ρ : Env} {h : Hs} {o : Out} (e : whileF t b n ρ h = o) (hs : o ≠ .stuck) (hn : n ≤ FUEL) : sWhile t b ρ h = o := whileF_mono n FUEL ρ h o e hs hn

/-- a while that comes to an end -/
theorem while_ex {S : Type} {t : T} {b : Sm} (R : S → Env → Hs → Prop) (m : S → Nat) (c : S → Bool) (ht : ∀ s ρ h, R s ρ h → t ρ h = .ok (c s) h)
    (hb : ∀ s ρ h, R s ρ h → c s = true → ∃ s2 ρ2 h2, (b ρ h = .nx ρ2 h2 ∨ b ρ h = .ct ρ2 h2) ∧ R s2 ρ2 h2 ∧ m s2 < m s) (s : S) (ρ : Env) (h : Hs) (r : R s ρ h) (hm : m s < 2 ^ 9000) :
    ∃ s' ρ' h', sWhile t b ρ h = .nx ρ' h' ∧ R s' ρ' h' ∧ c s' = false := by
  have key : ∀ (n : Nat) (s : S) (ρ : Env) (h : Hs), m s < n → R s ρ h → ∃ s' ρ' h', whileF t b n ρ h = .nx ρ' h' ∧ R s' ρ' h' ∧ c s' = false := by
    intro n
    induction n with
    | zero => intro s ρ h l _; omega
    | succ n ih =>
      intro s ρ h l r
      rw [whileF, ht s ρ h r, onR_ok]
      cases hc : c s with
      | false => rw [if_neg Bool.false_ne_true]; exact ⟨s, ρ, h, rfl, r, hc⟩
      | true =>
        rw [if_pos rfl]
        obtain ⟨s2, ρ2, h2, e2, r2, l2⟩ := hb s ρ h r hc
        obtain ⟨s3, ρ3, h3, e3, r3, c3⟩ := ih s2 ρ2 h2 (by omega) r2
        rcases e2 with e2 | e2
        · exact ⟨s3, ρ3, h3, by rw [e2]; exact e3, r3, c3⟩
        · exact ⟨s3, ρ3, h3, by rw [e2]; exact e3, r3, c3⟩
  obtain ⟨s', ρ', h', e, r', c'⟩ := key (m s + 1) s ρ h (by omega) r
  exact ⟨s', ρ', h', sWhile_of e (by intro z; cases z) (FUEL_big hm), r', c'⟩
/-! the last of a list at hand -/
theorem mPop_end {h : Hs} {ws : List W} {w : W} : mPop (.ref h.length) [] (h ++ [.lst (ws ++ [w])]) = .ok w (h ++ [.lst ws]) := by
  simp [mPop]
theorem ix_end {h : Hs} {ws : List W} {w : W} : oIx (.ref h.length) (.int (-1)) (h ++ [.lst (ws ++ [w])]) = .ok w (h ++ [.lst (ws ++ [w])]) := by
  simp [oIx, atW_last]
theorem st_end {h : Hs} {ws : List W} {w y : W} : stL (.ref h.length) (.int (-1)) y (h ++ [.lst (ws ++ [w])]) = some (h ++ [.lst (ws ++ [y])]) := by
  have : ixW (ws.length + 1) (-1) = some ws.length := by
    unfold ixW
    rw [if_neg (by omega), if_pos (by omega)]
    congr 1
    omega
  simp [stL, this]
theorem len_end {h : Hs} {ws : List W} : bLen [.ref h.length] (h ++ [.lst ws]) = .ok (.int ws.length) (h ++ [.lst ws]) := bLen_ref (by simp)
theorem enumW_at : ∀ (ws : List W) (k i : Nat), (enumW k ws)[i]? = (ws[i]?).map fun w => .tup [.int ((k + i : Nat) : Int), w]
  | [], k, i => by simp [enumW]
  | w :: ws, k, 0 => by simp [enumW]
  | w :: ws, k, i + 1 => by
    rw [enumW, List.getElem?_cons_succ, enumW_at ws (k + 1) i, List.getElem?_cons_succ]
    congr 2
    funext w
    congr 4
    omega
theorem enumW_length : ∀ (ws : List W) (k : Nat), (enumW k ws).length = ws.length
  | [], _ => rfl
  | w :: ws, k => by rw [enumW, List.length_cons, enumW_length ws (k + 1), List.length_cons]
end PF
namespace PF
namespace Law
abbrev K_PruneError : Nat := 0
abbrev K_NoRatio : Nat := 1
abbrev K_NoPrice : Nat := 2
def L1_shared_by : Sm := sSeq (sAsg (dCall bDivmod (aCons (dV 0) (aCons (dV 1) (aNil)))) (.t [.n 2, .n 3])) (sSeq (sAsg (dV 1) (.n 0)) (sAsg (dV 3) (.n 1)))
def b_shared_by : Sm := sSeq (sAsg (dCall bAbs (aCons (dV 0) (aNil))) (.n 0)) (sSeq (sAsg (dCall bAbs (aCons (dV 1) (aNil))) (.n 1)) (sSeq (sWhile (tVal (dBin oGt (dV 1) (dC (.int 0)))) (L1_shared_by)) (sRet (dV 0))))
def f_shared_by : Fn := defF 2 4 b_shared_by
theorem f_shared_by_e (w0 w1 : W) (h : Hs) : f_shared_by [w0, w1] h = gc h (endF (b_shared_by [some w0, some w1, none, none] h)) := rfl
def b_ratio : Sm := sSeq (sIf (tVal (dBin oEq (dV 1) (dC (.int 0)))) (sRaise 1) (sNx)) (sSeq (sAsg (dCall f_shared_by (aCons (dV 0) (aCons (dV 1) (aNil)))) (.n 2)) (sSeq (sIf (tVal (dBin oLt (dV 1) (dC (.int 0)))) (sAsg (dUn oNeg (dV 2)) (.n 2)) (sNx)) (sRet (dTup (aCons (dBin oDiv (dV 0) (dV 2)) (aCons (dBin oDiv (dV 1) (dV 2)) (aNil)))))))
def f_ratio : Fn := defF 2 3 b_ratio
theorem f_ratio_e (w0 w1 : W) (h : Hs) : f_ratio [w0, w1] h = gc h (endF (b_ratio [some w0, some w1, none] h)) := rfl
def b_plus : Sm := sRet (dCall f_ratio (aCons (dBin oAdd (dBin oMul (dBin oIx (dV 0) (dC (.int 0))) (dBin oIx (dV 1) (dC (.int 1)))) (dBin oMul (dBin oIx (dV 1) (dC (.int 0))) (dBin oIx (dV 0) (dC (.int 1))))) (aCons (dBin oMul (dBin oIx (dV 0) (dC (.int 1))) (dBin oIx (dV 1) (dC (.int 1)))) (aNil))))
def f_plus : Fn := defF 2 2 b_plus
theorem f_plus_e (w0 w1 : W) (h : Hs) : f_plus [w0, w1] h = gc h (endF (b_plus [some w0, some w1] h)) := rfl
def b_under : Sm := sRet (dBin oLt (dBin oMul (dBin oIx (dV 0) (dC (.int 0))) (dBin oIx (dV 1) (dC (.int 1)))) (dBin oMul (dBin oIx (dV 1) (dC (.int 0))) (dBin oIx (dV 0) (dC (.int 1)))))
def f_under : Fn := defF 2 2 b_under
theorem f_under_e (w0 w1 : W) (h : Hs) : f_under [w0, w1] h = gc h (endF (b_under [some w0, some w1] h)) := rfl
def L1_joined_rung : Sm := sSeq (sAsg (dCall f_plus (aCons (dBin oIx (dBin oIx (dV 0) (dBin oSub (dV 4) (dC (.int 1)))) (dC (.int 0))) (aCons (dBin oIx (dBin oIx (dV 1) (dBin oSub (dBin oSub (dV 2) (dV 4)) (dC (.int 1)))) (dC (.int 0))) (aNil)))) (.n 5)) (sIf (PF.tOr (tVal (dUn oIsN (dV 3))) (tVal (dCall f_under (aCons (dV 5) (aCons (dBin oIx (dV 3) (dC (.int 0))) (aNil)))))) (sAsg (dTup (aCons (dV 5) (aCons (dV 4) (aNil)))) (.n 3)) (sNx))
def b_joined_rung : Sm := sSeq (sAsg (dC .non) (.n 3)) (sSeq (sFor (iRng2 (dCall bMax2 (aCons (dC (.int 1)) (aCons (dBin oSub (dV 2) (dCall bLen (aCons (dV 1) (aNil)))) (aNil)))) (dBin oAdd (dCall bMin2 (aCons (dCall bLen (aCons (dV 0) (aNil))) (aCons (dBin oSub (dV 2) (dC (.int 1))) (aNil)))) (dC (.int 1)))) (.n 4) (L1_joined_rung)) (sSeq (sAsg (dGz (dComp (iAny (dBin oIx (dBin oIx (dV 0) (dBin oSub (dBin oIx (dV 3) (dC (.int 1))) (dC (.int 1)))) (dC (.int 1)))) (.n 8) PF.tYes (dBin oAdd (dC (.str [121])) (dV 8)) [8])) (.n 6)) (sSeq (sAsg (dGz (dComp (iAny (dBin oIx (dBin oIx (dV 1) (dBin oSub (dBin oSub (dV 2) (dBin oIx (dV 3) (dC (.int 1)))) (dC (.int 1)))) (dC (.int 1)))) (.n 8) PF.tYes (dBin oAdd (dC (.str [110])) (dV 8)) [8])) (.n 7)) (sRet (dTup (aCons (dBin oIx (dV 3) (dC (.int 0))) (aCons (dCall bSorted (aCons (dBin oAdd (dV 6) (dV 7)) (aNil))) (aNil))))))))
def f_joined_rung : Fn := mkF 3 9 b_joined_rung
theorem f_joined_rung_e (w0 w1 w2 : W) (h : Hs) : f_joined_rung [w0, w1, w2] h = (endF (b_joined_rung [some w0, some w1, some w2, none, none, none, none, none, none] h)) := rfl
def L1_rungs (rec : Fn) : Sm := sExp (dMeth .lst mAppend (dV 1) (aCons (dCall f_joined_rung (aCons (dV 2) (aCons (dV 3) (aCons (dV 4) (aNil))))) (aNil)))
def b_rungs (rec : Fn) : Sm := sSeq (sAsg (dLst (aCons (dTup (aCons (dBin oIx (dV 0) (dC (.int 1))) (aCons (dLst (aCons (dC (.str [])) (aNil))) (aNil)))) (aNil))) (.n 1)) (sSeq (sIf (tVal (dBin oEq (dBin oIx (dV 0) (dC (.int 0))) (dC (.str [101, 110, 100])))) (sRet (dV 1)) (sNx)) (sSeq (sAsg (dGz (dCall rec (aCons (dBin oIx (dV 0) (dC (.int 2))) (aNil)))) (.n 2)) (sSeq (sAsg (dGz (dCall rec (aCons (dBin oIx (dV 0) (dC (.int 3))) (aNil)))) (.n 3)) (sSeq (sFor (iRng2 (dC (.int 2)) (dBin oAdd (dBin oAdd (dCall bLen (aCons (dV 2) (aNil))) (dCall bLen (aCons (dV 3) (aNil)))) (dC (.int 1)))) (.n 4) (L1_rungs rec)) (sRet (dV 1))))))
def f_rungs : Nat → Fn
  | 0 => fun _ _ => .stuck
  | n + 1 => mkF 1 5 (b_rungs (f_rungs n))
theorem f_rungs_e (n : Nat) (w0 : W) (h : Hs) : f_rungs (n + 1) [w0] h = (endF (b_rungs (f_rungs n) [some w0, none, none, none, none] h)) := rfl
def b_ladder : Sm := sRet (dComp (iEnum (dCall (f_rungs 64) (aCons (dV 0) (aNil)))) (.t [.n 1, .n 2]) PF.tYes (dTup (aCons (dBin oAdd (dV 1) (dC (.int 1))) (aCons (dBin oIx (dV 2) (dC (.int 0))) (aCons (dBin oIx (dV 2) (dC (.int 1))) (aNil))))) [1, 2])
def f_ladder : Fn := mkF 1 3 b_ladder
theorem f_ladder_e (w0 : W) (h : Hs) : f_ladder [w0] h = (endF (b_ladder [some w0, none, none] h)) := rfl
def L1_first_point : Sm := sIf (tVal (dCall f_under (aCons (dBin oIx (dV 2) (dC (.int 1))) (aCons (dBin oIx (dV 1) (dC (.int 1))) (aNil))))) (sAsg (dV 2) (.n 1)) (sNx)
def b_first_point : Sm := sSeq (sAsg (dBin oIx (dV 0) (dC (.int 0))) (.n 1)) (sSeq (sFor (iAny (dV 0)) (.n 2) (L1_first_point)) (sRet (dV 1)))
def f_first_point : Fn := defF 1 3 b_first_point
theorem f_first_point_e (w0 : W) (h : Hs) : f_first_point [w0] h = gc h (endF (b_first_point [some w0, none, none] h)) := rfl
def b_minus : Sm := sRet (dCall f_ratio (aCons (dBin oSub (dBin oMul (dBin oIx (dV 0) (dC (.int 0))) (dBin oIx (dV 1) (dC (.int 1)))) (dBin oMul (dBin oIx (dV 1) (dC (.int 0))) (dBin oIx (dV 0) (dC (.int 1))))) (aCons (dBin oMul (dBin oIx (dV 0) (dC (.int 1))) (dBin oIx (dV 1) (dC (.int 1)))) (aNil))))
def f_minus : Fn := defF 2 2 b_minus
theorem f_minus_e (w0 w1 : W) (h : Hs) : f_minus [w0, w1] h = gc h (endF (b_minus [some w0, some w1] h)) := rfl
def b_over : Sm := sSeq (sIf (tVal (dBin oEq (dBin oIx (dV 1) (dC (.int 0))) (dC (.int 0)))) (sRaise 1) (sNx)) (sRet (dCall f_ratio (aCons (dBin oMul (dBin oIx (dV 0) (dC (.int 0))) (dBin oIx (dV 1) (dC (.int 1)))) (aCons (dBin oMul (dBin oIx (dV 0) (dC (.int 1))) (dBin oIx (dV 1) (dC (.int 0)))) (aNil)))))
def f_over : Fn := defF 2 2 b_over
theorem f_over_e (w0 w1 : W) (h : Hs) : f_over [w0, w1] h = gc h (endF (b_over [some w0, some w1] h)) := rfl
def L1_next_point : Sm := sIf (tVal (dBin oLt (dBin oIx (dV 3) (dC (.int 0))) (dBin oIx (dV 1) (dC (.int 0))))) (sSeq (sAsg (dCall f_over (aCons (dCall f_minus (aCons (dBin oIx (dV 3) (dC (.int 1))) (aCons (dBin oIx (dV 1) (dC (.int 1))) (aNil)))) (aCons (dCall f_ratio (aCons (dBin oSub (dBin oIx (dV 1) (dC (.int 0))) (dBin oIx (dV 3) (dC (.int 0)))) (aCons (dC (.int 1)) (aNil)))) (aNil)))) (.n 4)) (sIf (PF.tOr (tVal (dUn oIsN (dV 2))) (tVal (dCall f_under (aCons (dV 4) (aCons (dBin oIx (dV 2) (dC (.int 0))) (aNil)))))) (sAsg (dTup (aCons (dV 4) (aCons (dV 3) (aNil)))) (.n 2)) (sNx))) (sNx)
def b_next_point : Sm := sSeq (sAsg (dC .non) (.n 2)) (sSeq (sFor (iAny (dV 0)) (.n 3) (L1_next_point)) (sRet (dV 2)))
def f_next_point : Fn := defF 2 5 b_next_point
theorem f_next_point_e (w0 w1 : W) (h : Hs) : f_next_point [w0, w1] h = gc h (endF (b_next_point [some w0, some w1, none, none, none] h)) := rfl
def L1_corners : Sm := sSeq (sAsg (dBin oIx (dV 3) (dC (.int 1))) (.n 1)) (sSeq (sExp (dMeth .lst mAppend (dV 2) (aCons (dTup (aCons (dBin oIx (dV 3) (dC (.int 0))) (aCons (dBin oIx (dV 1) (dC (.int 0))) (aNil)))) (aNil)))) (sAsg (dCall f_next_point (aCons (dV 0) (aCons (dV 1) (aNil)))) (.n 3)))
def b_corners : Sm := sSeq (sIf (tVal (dBin oEq (dCall bLen (aCons (dV 0) (aNil))) (dC (.int 0)))) (sRet (dGz (dLst (aNil)))) (sNx)) (sSeq (sAsg (dCall f_first_point (aCons (dV 0) (aNil))) (.n 1)) (sSeq (sAsg (dLst (aCons (dTup (aCons (dTup (aCons (dC (.int 0)) (aCons (dC (.int 1)) (aNil)))) (aCons (dBin oIx (dV 1) (dC (.int 0))) (aNil)))) (aNil))) (.n 2)) (sSeq (sAsg (dCall f_next_point (aCons (dV 0) (aCons (dV 1) (aNil)))) (.n 3)) (sSeq (sWhile (tVal (dUn oNotN (dV 3))) (L1_corners)) (sRet (dV 2))))))
def f_corners : Fn := defF 1 4 b_corners
theorem f_corners_e (w0 : W) (h : Hs) : f_corners [w0] h = gc h (endF (b_corners [some w0, none, none, none] h)) := rfl
def b_best_under (rec : Fn) : Sm := sSeq (sAsg (dCall f_plus (aCons (dBin oIx (dV 0) (dC (.int 1))) (aCons (dV 1) (aNil)))) (.n 3)) (sSeq (sIf (tVal (dBin oEq (dBin oIx (dV 0) (dC (.int 0))) (dC (.str [101, 110, 100])))) (sRet (dTup (aCons (dV 3) (aCons (dGz (dLst (aCons (dV 2) (aNil)))) (aNil))))) (sNx)) (sSeq (sAsg (dCall rec (aCons (dBin oIx (dV 0) (dC (.int 2))) (aCons (dV 1) (aCons (dBin oAdd (dV 2) (dC (.str [121]))) (aNil))))) (.t [.n 4, .n 5])) (sSeq (sAsg (dCall rec (aCons (dBin oIx (dV 0) (dC (.int 3))) (aCons (dV 1) (aCons (dBin oAdd (dV 2) (dC (.str [110]))) (aNil))))) (.t [.n 6, .n 7])) (sSeq (sAsg (dCall f_plus (aCons (dV 4) (aCons (dV 6) (aNil)))) (.n 8)) (sSeq (sIf (tVal (dCall f_under (aCons (dV 8) (aCons (dV 3) (aNil))))) (sRet (dTup (aCons (dV 8) (aCons (dGz (dBin oAdd (dV 7) (dV 5))) (aNil))))) (sNx)) (sRet (dTup (aCons (dV 3) (aCons (dGz (dLst (aCons (dV 2) (aNil)))) (aNil))))))))))
def f_best_under : Nat → Fn
  | 0 => fun _ _ => .stuck
  | n + 1 => defF 3 9 (b_best_under (f_best_under n))
theorem f_best_under_e (n : Nat) (w0 w1 w2 : W) (h : Hs) : f_best_under (n + 1) [w0, w1, w2] h = gc h (endF (b_best_under (f_best_under n) [some w0, some w1, some w2, none, none, none, none, none, none] h)) := rfl
def b_cheapest : Sm := sSeq (sIf (tVal (dBin oLt (dBin oIx (dV 1) (dC (.int 0))) (dC (.int 0)))) (sRaiseF 2 [112, 114, 105, 99, 101] (dV 1)) (sNx)) (sRet (dBin oIx (dCall (f_best_under 64) (aCons (dV 0) (aCons (dV 1) (aCons (dC (.str [])) (aNil))))) (dC (.int 1))))
def f_cheapest : Fn := defF 2 2 b_cheapest
theorem f_cheapest_e (w0 w1 : W) (h : Hs) : f_cheapest [w0, w1] h = gc h (endF (b_cheapest [some w0, some w1] h)) := rfl
def b_linked_under (rec : Fn) : Sm := sSeq (sIf (tVal (dBin oIn (dV 2) (dV 1))) (sRet (dTup (aCons (dBin oIx (dV 0) (dC (.int 1))) (aCons (dC (.int 1)) (aCons (dGz (dLst (aNil))) (aNil)))))) (sNx)) (sSeq (sAsg (dCall rec (aCons (dBin oIx (dV 0) (dC (.int 2))) (aCons (dV 1) (aCons (dBin oAdd (dV 2) (dC (.str [121]))) (aNil))))) (.t [.n 3, .n 4, .n 5])) (sSeq (sAsg (dCall rec (aCons (dBin oIx (dV 0) (dC (.int 3))) (aCons (dV 1) (aCons (dBin oAdd (dV 2) (dC (.str [110]))) (aNil))))) (.t [.n 6, .n 7, .n 8])) (sSeq (sAsg (dCall f_plus (aCons (dV 3) (aCons (dV 6) (aNil)))) (.n 9)) (sSeq (sAsg (dBin oAdd (dV 4) (dV 7)) (.n 10)) (sSeq (sAsg (dCall f_over (aCons (dCall f_minus (aCons (dBin oIx (dV 0) (dC (.int 1))) (aCons (dV 9) (aNil)))) (aCons (dTup (aCons (dBin oSub (dV 10) (dC (.int 1))) (aCons (dC (.int 1)) (aNil)))) (aNil)))) (.n 11)) (sRet (dTup (aCons (dV 9) (aCons (dV 10) (aCons (dGz (dBin oAdd (dGz (dBin oAdd (dGz (dLst (aCons (dTup (aCons (dV 2) (aCons (dV 11) (aNil)))) (aNil)))) (dV 8))) (dV 5))) (aNil)))))))))))
def f_linked_under : Nat → Fn
  | 0 => fun _ _ => .stuck
  | n + 1 => defF 3 12 (b_linked_under (f_linked_under n))
theorem f_linked_under_e (n : Nat) (w0 w1 w2 : W) (h : Hs) : f_linked_under (n + 1) [w0, w1, w2] h = gc h (endF (b_linked_under (f_linked_under n) [some w0, some w1, some w2, none, none, none, none, none, none, none, none, none] h)) := rfl
def b_all_links : Sm := sRet (dBin oIx (dCall (f_linked_under 64) (aCons (dV 0) (aCons (dV 1) (aCons (dC (.str [])) (aNil))))) (dC (.int 2)))
def f_all_links : Fn := defF 2 2 b_all_links
theorem f_all_links_e (w0 w1 : W) (h : Hs) : f_all_links [w0, w1] h = gc h (endF (b_all_links [some w0, some w1] h)) := rfl
def b_tops_of : Sm := sRet (dGz (dComp (iAny (dV 0)) (.n 2) (tVal (dMeth .str mStarts (dV 1) (aCons (dV 2) (aNil)))) (dV 2) [2]))
def f_tops_of : Fn := defF 2 3 b_tops_of
theorem f_tops_of_e (w0 w1 : W) (h : Hs) : f_tops_of [w0, w1] h = gc h (endF (b_tops_of [some w0, some w1, none] h)) := rfl
def b_cut : Sm := sSeq (sAsg (dGz (dComp (iAny (dV 0)) (.n 4) (tVal (dBin oEq (dCall bLen (aCons (dCall f_tops_of (aCons (dV 1) (aCons (dV 4) (aNil)))) (aNil))) (dC (.int 0)))) (dV 4) [4])) (.n 2)) (sSeq (sAsg (dGz (dComp (iAny (dV 1)) (.n 4) (tVal (dBin oEq (dCall bLen (aCons (dCall f_tops_of (aCons (dV 1) (aCons (dV 4) (aNil)))) (aNil))) (dC (.int 1)))) (dV 4) [4])) (.n 3)) (sRet (dGz (dCall bSorted (aCons (dGz (dBin oAdd (dV 2) (dV 3))) (aNil))))))
def f_cut : Fn := defF 2 5 b_cut
theorem f_cut_e (w0 w1 : W) (h : Hs) : f_cut [w0, w1] h = gc h (endF (b_cut [some w0, some w1, none, none, none] h)) := rfl
def L1_least_link : Sm := sIf (tVal (dCall f_under (aCons (dV 3) (aCons (dV 1) (aNil))))) (sAsg (dV 3) (.n 1)) (sNx)
def b_least_link : Sm := sSeq (sAsg (dBin oIx (dBin oIx (dV 0) (dC (.int 0))) (dC (.int 1))) (.n 1)) (sSeq (sFor (iAny (dV 0)) (.t [.n 2, .n 3]) (L1_least_link)) (sRet (dV 1)))
def f_least_link : Fn := defF 1 4 b_least_link
theorem f_least_link_e (w0 : W) (h : Hs) : f_least_link [w0] h = gc h (endF (b_least_link [some w0, none, none, none] h)) := rfl
def L1_path : Sm := sSeq (sAsg (dCall f_all_links (aCons (dV 0) (aCons (dV 2) (aNil)))) (.n 4)) (sSeq (sAsg (dCall f_least_link (aCons (dV 4) (aNil))) (.n 1)) (sSeq (sAsg (dCall f_cut (aCons (dV 2) (aCons (dGz (dComp (iAny (dV 4)) (.t [.n 5, .n 6]) (tVal (dBin oEq (dV 6) (dV 1))) (dV 5) [5, 6])) (aNil)))) (.n 2)) (sExp (dMeth .lst mAppend (dV 3) (aCons (dTup (aCons (dV 1) (aCons (dV 2) (aNil)))) (aNil))))))
def b_path : Sm := sSeq (sAsg (dTup (aCons (dC (.int 0)) (aCons (dC (.int 1)) (aNil)))) (.n 1)) (sSeq (sAsg (dCall f_cheapest (aCons (dV 0) (aCons (dV 1) (aNil)))) (.n 2)) (sSeq (sAsg (dLst (aCons (dTup (aCons (dV 1) (aCons (dV 2) (aNil)))) (aNil))) (.n 3)) (sSeq (sWhile (tVal (dBin oNe (dV 2) (dGz (dLst (aCons (dC (.str [])) (aNil)))))) (L1_path)) (sRet (dV 3)))))
def f_path : Fn := defF 1 7 b_path
theorem f_path_e (w0 : W) (h : Hs) : f_path [w0] h = gc h (endF (b_path [some w0, none, none, none, none, none, none] h)) := rfl
def L1_for_price : Sm := sSeq (sIf (tVal (dCall f_under (aCons (dV 1) (aCons (dV 3) (aNil))))) (sBrk) (sNx)) (sAsg (dV 4) (.n 2))
def b_for_price : Sm := sSeq (sIf (tVal (dBin oLt (dBin oIx (dV 1) (dC (.int 0))) (dC (.int 0)))) (sRaiseF 2 [112, 114, 105, 99, 101] (dV 1)) (sNx)) (sSeq (sAsg (dBin oIx (dBin oIx (dV 0) (dC (.int 0))) (dC (.int 1))) (.n 2)) (sSeq (sFor (iAny (dV 0)) (.t [.n 3, .n 4]) (L1_for_price)) (sRet (dGz (dCall bList (aCons (dV 2) (aNil)))))))
def f_for_price : Fn := defF 2 5 b_for_price
theorem f_for_price_e (w0 w1 : W) (h : Hs) : f_for_price [w0, w1] h = gc h (endF (b_for_price [some w0, some w1, none, none, none] h)) := rfl
def b__law_cell : Sm := sSeq (sIf (tVal (dBin oLt (dV 1) (dCall bLen (aCons (dV 0) (aNil))))) (sRet (dBin oIx (dV 0) (dV 1))) (sNx)) (sRet (dC (.int 0)))
def f__law_cell : Fn := defF 2 2 b__law_cell
theorem f__law_cell_e (w0 w1 : W) (h : Hs) : f__law_cell [w0, w1] h = gc h (endF (b__law_cell [some w0, some w1] h)) := rfl
def b__law_next : Sm := sRet (dBin oMod (dBin oAdd (dBin oAdd (dBin oMul (dV 0) (dBin oAdd (dC (.int 48271)) (dBin oMul (dC (.int 21350)) (dV 1)))) (dC (.int 12345))) (dV 1)) (dC (.int 2147483647)))
def f__law_next : Fn := defF 2 2 b__law_next
theorem f__law_next_e (w0 w1 : W) (h : Hs) : f__law_next [w0, w1] h = gc h (endF (b__law_next [some w0, some w1] h)) := rfl
def L1__law_ratio : Sm := sSeq (sAsg (dBin oMod (dV 2) (dV 3)) (.n 4)) (sSeq (sAsg (dV 3) (.n 2)) (sAsg (dV 4) (.n 3)))
def b__law_ratio : Sm := sSeq (sAsg (dCall bAbs (aCons (dV 0) (aNil))) (.n 2)) (sSeq (sAsg (dV 1) (.n 3)) (sSeq (sWhile (tVal (dBin oGt (dV 3) (dC (.int 0)))) (L1__law_ratio)) (sRet (dTup (aCons (dBin oDiv (dV 0) (dV 2)) (aCons (dBin oDiv (dV 1) (dV 2)) (aNil)))))))
def f__law_ratio : Fn := defF 2 5 b__law_ratio
theorem f__law_ratio_e (w0 w1 : W) (h : Hs) : f__law_ratio [w0, w1] h = gc h (endF (b__law_ratio [some w0, some w1, none, none, none] h)) := rfl
def b__law_joined : Sm := sSeq (sAsg (dBin oIx (dV 0) (dUn oNeg (dC (.int 1)))) (.n 2)) (sSeq (sAsg (dBin oIx (dV 0) (dUn oNeg (dC (.int 2)))) (.n 3)) (sRet (dBin oAdd (dGz (dSl (dV 0) (pNo) (pAt (dUn oNeg (dC (.int 2)))))) (dGz (dLst (aCons (dTup (aCons (dC (.str [102, 111, 114, 107])) (aCons (dBin oAdd (dBin oAdd (dBin oIx (dV 3) (dC (.int 1))) (dBin oIx (dV 2) (dC (.int 1)))) (dV 1)) (aCons (dV 3) (aCons (dV 2) (aNil)))))) (aNil)))))))
def f__law_joined : Fn := defL 2 4 b__law_joined
theorem f__law_joined_e (w0 w1 : W) (h : Hs) : f__law_joined [w0, w1] h = gcL h (endF (b__law_joined [some w0, some w1, none, none] h)) := rfl
def L1__law_tree : Sm := sIf (PF.tOr (tVal (dBin oLt (dBin oMod (dV 3) (dC (.int 4))) (dC (.int 2)))) (tVal (dBin oLt (dCall bLen (aCons (dV 2) (aNil))) (dC (.int 2))))) (sExp (dMeth .lst mAppend (dV 2) (aCons (dTup (aCons (dC (.str [101, 110, 100])) (aCons (dBin oMul (dBin oSub (dBin oMod (dBin oDiv (dV 3) (dC (.int 4))) (dC (.int 41))) (dC (.int 5))) (dV 1)) (aNil)))) (aNil)))) (sAsg (dCall f__law_joined (aCons (dV 2) (aCons (dBin oMul (dBin oSub (dBin oMod (dBin oDiv (dV 3) (dC (.int 4))) (dC (.int 29))) (dC (.int 3))) (dV 1)) (aNil)))) (.n 2))
def L2__law_tree : Sm := sAsg (dCall f__law_joined (aCons (dV 2) (aCons (dBin oMul (dCall bLen (aCons (dV 2) (aNil))) (dV 1)) (aNil)))) (.n 2)
def b__law_tree : Sm := sSeq (sAsg (dLst (aNil)) (.n 2)) (sSeq (sFor (iAny (dV 0)) (.n 3) (L1__law_tree)) (sSeq (sIf (tVal (dBin oEq (dCall bLen (aCons (dV 2) (aNil))) (dC (.int 0)))) (sExp (dMeth .lst mAppend (dV 2) (aCons (dTup (aCons (dC (.str [101, 110, 100])) (aCons (dV 1) (aNil)))) (aNil)))) (sNx)) (sSeq (sWhile (tVal (dBin oGt (dCall bLen (aCons (dV 2) (aNil))) (dC (.int 1)))) (L2__law_tree)) (sSeq (sIf (PF.tAnd (tVal (dChain oLt oLt (dC (.int 0)) (dCall bLen (aCons (dV 0) (aNil))) (dC (.int 11)))) (tVal (dBin oEq (dBin oMod (dBin oIx (dV 0) (dC (.int 0))) (dC (.int 3))) (dC (.int 1))))) (sAsg (dCall f__law_joined (aCons (dGz (dLst (aCons (dBin oIx (dV 2) (dC (.int 0))) (aCons (dBin oIx (dV 2) (dC (.int 0))) (aNil))))) (aCons (dBin oMul (dBin oMod (dBin oDiv (dBin oIx (dV 0) (dC (.int 0))) (dC (.int 3))) (dC (.int 40))) (dV 1)) (aNil)))) (.n 2)) (sNx)) (sRet (dBin oIx (dV 2) (dC (.int 0))))))))
def f__law_tree : Fn := defF 2 4 b__law_tree
theorem f__law_tree_e (w0 w1 : W) (h : Hs) : f__law_tree [w0, w1] h = gc h (endF (b__law_tree [some w0, some w1, none, none] h)) := rfl
def b__law_digit : Sm := sSeq (sIf (tVal (dBin oEq (dBin oIx (dV 0) (dC (.int 1))) (dC (.int 1)))) (sSeq (sAsg (dBin oMod (dBin oIx (dV 0) (dC (.int 0))) (dV 1)) (.n 2)) (sSeq (sSub (dBin oDiv (dBin oIx (dV 0) (dC (.int 0))) (dV 1)) (dV 0) (dC (.int 0)) stL) (sRet (dV 2)))) (sNx)) (sSeq (sSub (dBin oMod (dBin oAdd (dBin oMul (dBin oIx (dV 0) (dC (.int 0))) (dC (.int 48271))) (dC (.int 11))) (dC (.int 2147483647))) (dV 0) (dC (.int 0)) stL) (sRet (dBin oMod (dBin oDiv (dBin oMod (dBin oMul (dBin oIx (dV 0) (dC (.int 0))) (dC (.int 16807))) (dC (.int 2147483629))) (dC (.int 8))) (dV 1))))
def f__law_digit : Fn := defF 2 3 b__law_digit
theorem f__law_digit_e (w0 w1 : W) (h : Hs) : f__law_digit [w0, w1] h = gc h (endF (b__law_digit [some w0, some w1, none] h)) := rfl
def b__law_grown (rec : Fn) : Sm := sSeq (sIf (PF.tOr (tVal (dBin oEq (dBin oIx (dV 1) (dC (.int 0))) (dC (.int 0)))) (tVal (dBin oLt (dCall f__law_digit (aCons (dV 0) (aCons (dC (.int 5)) (aNil)))) (dC (.int 2))))) (sRet (dTup (aCons (dC (.str [101, 110, 100])) (aCons (dBin oMul (dBin oSub (dCall f__law_digit (aCons (dV 0) (aCons (dC (.int 61)) (aNil)))) (dC (.int 20))) (dV 2)) (aNil))))) (sNx)) (sSeq (sAugX oSub (dV 1) (dC (.int 0)) (dC (.int 1))) (sSeq (sAsg (dCall rec (aCons (dV 0) (aCons (dV 1) (aCons (dV 2) (aNil))))) (.n 3)) (sSeq (sAsg (dCall rec (aCons (dV 0) (aCons (dV 1) (aCons (dV 2) (aNil))))) (.n 4)) (sRet (dTup (aCons (dC (.str [102, 111, 114, 107])) (aCons (dBin oAdd (dBin oAdd (dBin oIx (dV 3) (dC (.int 1))) (dBin oIx (dV 4) (dC (.int 1)))) (dBin oMul (dBin oSub (dCall f__law_digit (aCons (dV 0) (aCons (dC (.int 101)) (aNil)))) (dC (.int 20))) (dV 2))) (aCons (dV 3) (aCons (dV 4) (aNil))))))))))
def f__law_grown : Nat → Fn
  | 0 => fun _ _ => .stuck
  | n + 1 => defF 3 5 (b__law_grown (f__law_grown n))
theorem f__law_grown_e (n : Nat) (w0 w1 w2 : W) (h : Hs) : f__law_grown (n + 1) [w0, w1, w2] h = gc h (endF (b__law_grown (f__law_grown n) [some w0, some w1, some w2, none, none] h)) := rfl
def b__law_handed (rec : Fn) : Sm := sSeq (sIf (tVal (dBin oEq (dBin oIx (dV 0) (dC (.int 0))) (dC (.str [101, 110, 100])))) (sRet (dTup (aCons (dC (.str [101, 110, 100])) (aCons (dCall f__law_ratio (aCons (dBin oIx (dV 0) (dC (.int 1))) (aCons (dV 1) (aNil)))) (aNil))))) (sNx)) (sSeq (sAsg (dCall rec (aCons (dBin oIx (dV 0) (dC (.int 2))) (aCons (dV 1) (aNil)))) (.n 2)) (sSeq (sAsg (dV 2) (.n 3)) (sSeq (sIf (tVal (dBin oNe (dBin oIx (dV 0) (dC (.int 3))) (dBin oIx (dV 0) (dC (.int 2))))) (sAsg (dCall rec (aCons (dBin oIx (dV 0) (dC (.int 3))) (aCons (dV 1) (aNil)))) (.n 3)) (sNx)) (sRet (dTup (aCons (dC (.str [102, 111, 114, 107])) (aCons (dCall f__law_ratio (aCons (dBin oIx (dV 0) (dC (.int 1))) (aCons (dV 1) (aNil)))) (aCons (dV 2) (aCons (dV 3) (aNil))))))))))
def f__law_handed : Nat → Fn
  | 0 => fun _ _ => .stuck
  | n + 1 => defF 2 4 (b__law_handed (f__law_handed n))
theorem f__law_handed_e (n : Nat) (w0 w1 : W) (h : Hs) : f__law_handed (n + 1) [w0, w1] h = gc h (endF (b__law_handed (f__law_handed n) [some w0, some w1, none, none] h)) := rfl
def b__law_drawn (rec : Fn) : Sm := sSeq (sIf (PF.tOr (tVal (dBin oEq (dBin oIx (dV 0) (dC (.int 0))) (dC (.str [101, 110, 100])))) (tVal (dBin oEq (dBin oMod (dV 2) (dC (.int 3))) (dC (.int 0))))) (sRet (dGz (dLst (aCons (dV 1) (aNil))))) (sNx)) (sSeq (sAsg (dCall rec (aCons (dBin oIx (dV 0) (dC (.int 3))) (aCons (dBin oAdd (dV 1) (dC (.str [110]))) (aCons (dCall f__law_next (aCons (dV 2) (aCons (dC (.int 0)) (aNil)))) (aNil))))) (.n 3)) (sRet (dBin oAdd (dV 3) (dCall rec (aCons (dBin oIx (dV 0) (dC (.int 2))) (aCons (dBin oAdd (dV 1) (dC (.str [121]))) (aCons (dCall f__law_next (aCons (dV 2) (aCons (dC (.int 1)) (aNil)))) (aNil))))))))
def f__law_drawn : Nat → Fn
  | 0 => fun _ _ => .stuck
  | n + 1 => defF 3 4 (b__law_drawn (f__law_drawn n))
theorem f__law_drawn_e (n : Nat) (w0 w1 w2 : W) (h : Hs) : f__law_drawn (n + 1) [w0, w1, w2] h = gc h (endF (b__law_drawn (f__law_drawn n) [some w0, some w1, some w2, none] h)) := rfl
def L1__law_sum : Sm := sAsg (dBin oIx (dV 4) (dBin oAdd (dC (.int 2)) (dCall bInt (aCons (dBin oEq (dV 5) (dC (.str [110]))) (aNil))))) (.n 4)
def L2__law_sum : Sm := sSeq (sAsg (dV 0) (.n 4)) (sSeq (sFor (iAny (dV 3)) (.n 5) (L1__law_sum)) (sAug 2 oAddI (dBin oIx (dV 4) (dC (.int 1)))))
def b__law_sum : Sm := sSeq (sAsg (dC (.int 0)) (.n 2)) (sSeq (sFor (iAny (dV 1)) (.n 3) (L2__law_sum)) (sRet (dV 2)))
def f__law_sum : Fn := defF 2 6 b__law_sum
theorem f__law_sum_e (w0 w1 : W) (h : Hs) : f__law_sum [w0, w1] h = gc h (endF (b__law_sum [some w0, some w1, none, none, none, none] h)) := rfl
def b__law_ends (rec : Fn) : Sm := sSeq (sIf (tVal (dBin oEq (dBin oIx (dV 0) (dC (.int 0))) (dC (.str [101, 110, 100])))) (sRet (dGz (dLst (aCons (dV 1) (aNil))))) (sNx)) (sRet (dBin oAdd (dCall rec (aCons (dBin oIx (dV 0) (dC (.int 3))) (aCons (dBin oAdd (dV 1) (dC (.str [110]))) (aNil)))) (dCall rec (aCons (dBin oIx (dV 0) (dC (.int 2))) (aCons (dBin oAdd (dV 1) (dC (.str [121]))) (aNil))))))
def f__law_ends : Nat → Fn
  | 0 => fun _ _ => .stuck
  | n + 1 => defF 2 2 (b__law_ends (f__law_ends n))
theorem f__law_ends_e (n : Nat) (w0 w1 : W) (h : Hs) : f__law_ends (n + 1) [w0, w1] h = gc h (endF (b__law_ends (f__law_ends n) [some w0, some w1] h)) := rfl
def L1__law_is_pruning : Sm := sSeq (sAsg (dGz (dComp (iAny (dV 1)) (.n 5) (tVal (dMeth .str mStarts (dV 3) (aCons (dV 5) (aNil)))) (dV 5) [5])) (.n 4)) (sSeq (sIf (tVal (dBin oNe (dCall bLen (aCons (dV 4) (aNil))) (dC (.int 1)))) (sRet (dC (.bl false))) (sNx)) (sSub (dC (.bl true)) (dV 2) (dBin oIx (dV 4) (dC (.int 0))) stL))
def b__law_is_pruning : Sm := sSeq (sIf (PF.tOr (PF.tNot (tVal (dUn (oIs .list) (dV 1)))) (tVal (dBin oNe (dGz (dCall bSortSet (aCons (dV 1) (aNil)))) (dV 1)))) (sRet (dC (.bl false))) (sNx)) (sSeq (sAsg (dDct0) (.n 2)) (sSeq (sFor (iAny (dCall (f__law_ends 64) (aCons (dV 0) (aCons (dC (.str [])) (aNil))))) (.n 3) (L1__law_is_pruning)) (sRet (dBin oEq (dCall bLen (aCons (dV 2) (aNil))) (dCall bLen (aCons (dV 1) (aNil)))))))
def f__law_is_pruning : Fn := defF 2 6 b__law_is_pruning
theorem f__law_is_pruning_e (w0 w1 : W) (h : Hs) : f__law_is_pruning [w0, w1] h = gc h (endF (b__law_is_pruning [some w0, some w1, none, none, none, none] h)) := rfl
def b__law_worth : Sm := sRet (dBin oAdd (dBin oMul (dV 0) (dBin oIx (dV 3) (dC (.int 1)))) (dBin oMul (dBin oMul (dBin oIx (dV 3) (dC (.int 0))) (dV 2)) (dV 1)))
def f__law_worth : Fn := defF 4 4 b__law_worth
theorem f__law_worth_e (w0 w1 w2 w3 : W) (h : Hs) : f__law_worth [w0, w1, w2, w3] h = gc h (endF (b__law_worth [some w0, some w1, some w2, some w3] h)) := rfl
def L1_law : Sm := sIf (tVal (dBin oLt (dCall f__law_worth (aCons (dCall f__law_sum (aCons (dV 3) (aCons (dBin oIx (dV 13) (dC (.int 2))) (aNil)))) (aCons (dBin oIx (dV 13) (dC (.int 0))) (aCons (dV 2) (aCons (dV 10) (aNil)))))) (dV 12))) (sRet (dC (.bl false))) (sNx)
def L2_law : Sm := sSeq (sAsg (dCall f_for_price (aCons (dV 7) (aCons (dCall f__law_ratio (aCons (dBin oIx (dV 10) (dC (.int 0))) (aCons (dBin oIx (dV 10) (dC (.int 1))) (aNil)))) (aNil)))) (.n 11)) (sSeq (sIf (PF.tNot (tVal (dCall f__law_is_pruning (aCons (dV 3) (aCons (dV 11) (aNil)))))) (sRet (dC (.bl false))) (sNx)) (sSeq (sAsg (dCall f__law_worth (aCons (dCall f__law_sum (aCons (dV 3) (aCons (dV 11) (aNil)))) (aCons (dCall bLen (aCons (dV 11) (aNil))) (aCons (dV 2) (aCons (dV 10) (aNil)))))) (.n 12)) (sSeq (sFor (iAny (dV 6)) (.n 13) (L1_law)) (sSeq (sAsg (dCall (f__law_drawn 64) (aCons (dV 3) (aCons (dC (.str [])) (aCons (dCall f__law_next (aCons (dV 4) (aCons (dC (.int 1)) (aNil)))) (aNil))))) (.n 14)) (sIf (tVal (dBin oLt (dCall f__law_worth (aCons (dCall f__law_sum (aCons (dV 3) (aCons (dV 14) (aNil)))) (aCons (dCall bLen (aCons (dV 14) (aNil))) (aCons (dV 2) (aCons (dV 10) (aNil)))))) (dV 12))) (sRet (dC (.bl false))) (sNx))))))
def b_law : Sm := sSeq (sAsg (dBin oIx (dGz (dLst (aCons (dC (.int 1)) (aCons (dC (.int 1)) (aCons (dBin oPow (dC (.int 10)) (dC (.int 20))) (aNil)))))) (dBin oMod (dCall f__law_cell (aCons (dV 0) (aCons (dC (.int 0)) (aNil)))) (dC (.int 3)))) (.n 1)) (sSeq (sAsg (dBin oAdd (dC (.int 1)) (dBin oMod (dCall f__law_cell (aCons (dV 0) (aCons (dC (.int 1)) (aNil)))) (dBin oPow (dC (.int 10)) (dC (.int 9))))) (.n 2)) (sSeq (sAsg (dCall f__law_tree (aCons (dGz (dSl (dV 0) (pAt (dC (.int 3))) (pAt (dC (.int 21))))) (aCons (dV 1) (aNil)))) (.n 3)) (sSeq (sIf (tVal (dBin oEq (dBin oMod (dBin oDiv (dCall f__law_cell (aCons (dV 0) (aCons (dC (.int 0)) (aNil)))) (dC (.int 3))) (dC (.int 2))) (dC (.int 0)))) (sSeq (sAsg (dCall f__law_cell (aCons (dV 0) (aCons (dC (.int 3)) (aNil)))) (.n 4)) (sAsg (dCall (f__law_grown 64) (aCons (dLst (aCons (dBin oIx (dGz (dLst (aCons (dBin oMod (dBin oDiv (dV 4) (dC (.int 2))) (dC (.int 2147483647))) (aCons (dBin oDiv (dV 4) (dC (.int 2))) (aNil))))) (dBin oMod (dV 4) (dC (.int 2)))) (aCons (dBin oMod (dV 4) (dC (.int 2))) (aNil)))) (aCons (dLst (aCons (dC (.int 15)) (aNil))) (aCons (dV 1) (aNil))))) (.n 3))) (sNx)) (sSeq (sAsg (dCall (f__law_handed 64) (aCons (dV 3) (aCons (dV 2) (aNil)))) (.n 5)) (sSeq (sAsg (dGz (dCall f_ladder (aCons (dV 5) (aNil)))) (.n 6)) (sSeq (sAsg (dCall f_path (aCons (dV 5) (aNil))) (.n 7)) (sSeq (sAsg (dCall f_corners (aCons (dGz (dComp (iAny (dV 6)) (.n 13) PF.tYes (dTup (aCons (dBin oIx (dV 13) (dC (.int 0))) (aCons (dBin oIx (dV 13) (dC (.int 1))) (aNil)))) [13])) (aNil))) (.n 8)) (sSeq (sIf (tVal (dBin oNe (dV 8) (dGz (dComp (iAny (dV 7)) (.n 15) PF.tYes (dTup (aCons (dBin oIx (dV 15) (dC (.int 0))) (aCons (dCall bLen (aCons (dBin oIx (dV 15) (dC (.int 1))) (aNil))) (aNil)))) [15])))) (sRet (dC (.bl false))) (sNx)) (sSeq (sAsg (dCall f__law_cell (aCons (dV 0) (aCons (dC (.int 2)) (aNil)))) (.n 4)) (sSeq (sAsg (dBin oMod (dBin oDiv (dV 4) (dC (.int 100))) (dBin oMul (dC (.int 60)) (dV 1))) (.n 9)) (sSeq (sFor (iAny (dGz (dLst (aCons (dTup (aCons (dV 9) (aCons (dV 2) (aNil)))) (aCons (dTup (aCons (dBin oMul (dBin oMod (dV 4) (dC (.int 60))) (dV 1)) (aCons (dV 2) (aNil)))) (aCons (dTup (aCons (dC (.int 0)) (aCons (dC (.int 1)) (aNil)))) (aCons (dTup (aCons (dBin oDiv (dV 9) (dC (.int 7))) (aCons (dC (.int 1)) (aNil)))) (aNil)))))))) (.n 10) (L2_law)) (sRet (dC (.bl true))))))))))))))
def f_law : Fn := defF 1 16 b_law
theorem f_law_e (w0 : W) (h : Hs) : f_law [w0] h = gc h (endF (b_law [some w0, none, none, none, none, none, none, none, none, none, none, none, none, none, none, none] h)) := rfl
end Law
end PF
namespace PF
section
variable {h : Hs} {w : W}
@[simp] theorem dV_13 {a b c d e f g k l m n p q : Option W} {o : Env} : dV 13 (a :: b :: c :: d :: e :: f :: g :: k :: l :: m :: n :: p :: q :: some w :: o) h = .ok w h := (rfl)
@[simp] theorem dV_14 {a b c d e f g k l m n p q r : Option W} {o : Env} : dV 14 (a :: b :: c :: d :: e :: f :: g :: k :: l :: m :: n :: p :: q :: r :: some w :: o) h = .ok w h := (rfl)
@[simp] theorem dV_15 {a b c d e f g k l m n p q r s : Option W} {o : Env} : dV 15 (a :: b :: c :: d :: e :: f :: g :: k :: l :: m :: n :: p :: q :: r :: s :: some w :: o) h = .ok w h := (rfl)
@[simp] theorem dV_16 {a b c d e f g k l m n p q r s t : Option W} {o : Env} : dV 16 (a :: b :: c :: d :: e :: f :: g :: k :: l :: m :: n :: p :: q :: r :: s :: t :: some w :: o) h = .ok w h := (rfl)
theorem oEq_d {i j : Int} : oEq (.int i) (.int j) h = .ok (.bl (decide (i = j))) h := by rw [oEq_i, beq_dec]
theorem oNe_d {i j : Int} : oNe (.int i) (.int j) h = .ok (.bl (!decide (i = j))) h := by rw [oNe_i, beq_dec]
theorem cast0 : ((0 : Nat) : Int) = 0 := (rfl)
theorem cast1 : ((1 : Nat) : Int) = 1 := (rfl)
theorem cast2 : ((2 : Nat) : Int) = 2 := (rfl)
theorem cast3 : ((3 : Nat) : Int) = 3 := (rfl)
theorem cast4 : ((4 : Nat) : Int) = 4 := (rfl)
theorem cast5 : ((5 : Nat) : Int) = 5 := (rfl)
theorem dcd_t {p : Prop} [Decidable p] (k : p) : decide p = true := decide_eq_true k
end
end PF
namespace PF
namespace Law
theorem cell_e (ns : List Int) (k : Nat) (h : Hs) : f__law_cell [.fl (ns.map W.int), .int (k : Int)] h = .ok (.int (ns[k]?.getD 0)) h := by
  rw [f__law_cell_e]
  unfold b__law_cell
  by_cases hk : k < ns.length
  · have e := oIx_fl (h := h) (ws := ns.map W.int) (k := k) (w := .int ns[k]) (by simp [hk])
    simp [hk, e]
  · simp [hk]
theorem cell_0 (ns : List Int) (h : Hs) : f__law_cell [.fl (ns.map W.int), .int 0] h = .ok (.int (ns[0]?.getD 0)) h := cell_e ns 0 h
theorem cell_1 (ns : List Int) (h : Hs) : f__law_cell [.fl (ns.map W.int), .int 1] h = .ok (.int (ns[1]?.getD 0)) h := cell_e ns 1 h
theorem cell_2 (ns : List Int) (h : Hs) : f__law_cell [.fl (ns.map W.int), .int 2] h = .ok (.int (ns[2]?.getD 0)) h := cell_e ns 2 h
theorem cell_3 (ns : List Int) (h : Hs) : f__law_cell [.fl (ns.map W.int), .int 3] h = .ok (.int (ns[3]?.getD 0)) h := cell_e ns 3 h
theorem cell_4 (ns : List Int) (h : Hs) : f__law_cell [.fl (ns.map W.int), .int 4] h = .ok (.int (ns[4]?.getD 0)) h := cell_e ns 4 h
/-- a slice from n on, as a value -/
theorem sl_lo {d : D} {ρ : Env} {h : Hs} {ws : List W} (n : Nat) (e : d ρ h = .ok (.fl ws) h) (hp : W.pures ws = true) (p : PF.P) (ep : p ρ h = .ok (some (n : Int)) h) : dGz (dSl d p pNo) ρ h = .ok (.fl (ws.drop n)) h := by
  rw [dGz_e, dSl_e, e, Res.bind_ok, ep, Res.bind_ok, pNo_e, Res.bind_ok, oSl_fl, cut_lo]
  refine gc_newL ?_
  have : ∀ (ws : List W) (n : Nat), W.pures ws = true → W.pures (ws.drop n) = true := by
    intro ws
    induction ws with
    | nil => intro n _; simp
    | cons w ws ih =>
      intro n q
      cases n with
      | zero => exact q
      | succ n => rw [pures_cons, Bool.and_eq_true] at q; exact ih n q.2
  exact this ws n hp
theorem sl_hi {d : D} {ρ : Env} {h : Hs} {ws : List W} (n : Nat) (e : d ρ h = .ok (.fl ws) h) (hp : W.pures ws = true) (p : PF.P) (ep : p ρ h = .ok (some (n : Int)) h) : dGz (dSl d pNo p) ρ h = .ok (.fl (ws.take n)) h := by
  rw [dGz_e, dSl_e, e, Res.bind_ok, pNo_e, Res.bind_ok, ep, Res.bind_ok, oSl_fl, cut_hi]
  refine gc_newL ?_
  have : ∀ (ws : List W) (n : Nat), W.pures ws = true → W.pures (ws.take n) = true := by
    intro ws
    induction ws with
    | nil => intro n _; simp
    | cons w ws ih =>
      intro n q
      cases n with
      | zero => rfl
      | succ n => rw [pures_cons, Bool.and_eq_true] at q; rw [List.take_succ_cons, pures_cons, q.1, ih n q.2]; rfl
  exact this ws n hp
theorem sl_lohi {d : D} {ρ : Env} {h : Hs} {ws : List W} (m n : Nat) (e : d ρ h = .ok (.fl ws) h) (hp : W.pures ((ws.take n).drop m) = true) (p q : PF.P) (ep : p ρ h = .ok (some (m : Int)) h) (eq : q ρ h = .ok (some (n : Int)) h) : dGz (dSl d p q) ρ h = .ok (.fl ((ws.take n).drop m)) h := by
  rw [dGz_e, dSl_e, e, Res.bind_ok, ep, Res.bind_ok, eq, Res.bind_ok, oSl_fl, cut_lohi]
  exact gc_newL hp
theorem pAt_of {d : D} {ρ : Env} {h : Hs} {i : Int} (e : d ρ h = .ok (.int i) h) : pAt d ρ h = .ok (some i) h := by rw [pAt_b, e]; rfl
/-- a display, as a value -/
theorem lst_gz {as : As} {ρ : Env} {h : Hs} {ws : List W} (e : as ρ h = .ok ws h) (hl : ws.length ≤ bigL) (hp : W.pures ws = true) : dGz (dLst as) ρ h = .ok (.fl ws) h := by
  rw [dGz_e, dLst_e, e, Res.bind_ok, if_pos hl]
  exact gc_newL hp
/-- a copy, as a value -/
theorem list_gz {d : D} {ρ : Env} {h : Hs} {ws : List W} (e : d ρ h = .ok (.fl ws) h) (hp : W.pures ws = true) : dGz (dCall bList (aCons d aNil)) ρ h = .ok (.fl ws) h := by
  rw [dGz_e]
  simp only [dCall_e, aCons_e, aNil_e, e, Res.bind_ok, bList_fl]
  exact gc_newL hp
theorem ints_pure (is : List Int) : W.pures (is.map W.int) = true := pures_map fun _ _ => rfl
theorem strs_pure (is : List (List Nat)) : W.pures (is.map W.str) = true := pures_map fun _ _ => rfl
theorem sorted_gz {as : As} {ρ : Env} {h : Hs} {ss : List (List Nat)} (e : as ρ h = .ok [.fl (ss.map W.str)] h) (hl : ss.length < 64) : dGz (dCall bSorted as) ρ h = .ok (.fl ((sortS ss).map W.str)) h := by
  rw [dGz_e, dCall_e, e, Res.bind_ok, bSorted_fl ss hl]
  exact gc_newL (strs_pure _)
theorem sortS_len (ss : List (List Nat)) : (sortS ss).length = ss.length := by unfold sortS; rw [List.length_mergeSort]
/-- a remainder as a natural number -/
theorem mod_nat (x m : Int) (hm : 0 < m) : ∃ k : Nat, (k : Int) = x % m ∧ (k : Int) < m := by
  have h1 := Int.emod_nonneg x (show m ≠ 0 by omega)
  have h2 := Int.emod_lt_of_pos x hm
  exact ⟨(x % m).toNat, by omega, by omega⟩
end Law
end PF
namespace PF
namespace Law
abbrev tEnd : List Nat := [101, 110, 100]
abbrev tFork : List Nat := [102, 111, 114, 107]
/-- a tree with whole costs -/
inductive Tr where
  | en (c : Int)
  | fk (c : Int) (t u : Tr)
def trW : Tr → W
  | .en c => .tup [.str tEnd, .int c]
  | .fk c t u => .tup [.str tFork, .int c, trW t, trW u]
def Tr.leaves : Tr → Nat
  | .en _ => 1
  | .fk _ t u => t.leaves + u.leaves
def Tr.high : Tr → Nat
  | .en _ => 0
  | .fk _ t u => 1 + max t.high u.high
def Tr.costs (B : Int) : Tr → Prop
  | .en c => -B ≤ c ∧ c ≤ B
  | .fk c t u => (-B ≤ c ∧ c ≤ B) ∧ t.costs B ∧ u.costs B
theorem Tr.costs_le {B C : Int} (h : B ≤ C) : ∀ t : Tr, t.costs B → t.costs C
  | .en c, q => ⟨by have := q.1; omega, by have := q.2; omega⟩
  | .fk c t u, q => ⟨⟨by have := q.1.1; omega, by have := q.1.2; omega⟩, t.costs_le h q.2.1, u.costs_le h q.2.2⟩
theorem Tr.leaves_pos : ∀ t : Tr, 1 ≤ t.leaves
  | .en _ => Nat.le_refl _
  | .fk _ t u => by have := t.leaves_pos; have := u.leaves_pos; show 1 ≤ t.leaves + u.leaves; omega
theorem trW_pure : ∀ t : Tr, (trW t).pure = true
  | .en _ => rfl
  | .fk _ t u => by rw [trW]; simp [trW_pure t, trW_pure u]
theorem trW_pl : ∀ t : Tr, W.pl (t.high + 1) (trW t) = true
  | .en _ => by simp [trW]
  | .fk _ t u => by
    have h1 := pl_le (t.high + 1) (1 + max t.high u.high) (trW t) (by omega) (trW_pl t)
    have h2 := pl_le (u.high + 1) (1 + max t.high u.high) (trW u) (by omega) (trW_pl u)
    rw [trW, Tr.high]
    simp [h1, h2]
end Law
end PF
namespace PF
/-- the bag of two numbers at b -/
def bag2 (h : Hs) (b : Nat) (x y : Int) : Hs := h.set b (.lst [.int x, .int y])
section
variable {h e : Hs} {b : Nat} {x y u v : Int}
@[simp] theorem bag2_len : (bag2 h b x y).length = h.length := by simp [bag2]
theorem bag2_get (hb : b < h.length) : (bag2 h b x y)[b]? = some (.lst [.int x, .int y]) := by simp [bag2, hb]
theorem bag2_bag2 : bag2 (bag2 h b x y) b u v = bag2 h b u v := by simp [bag2]
theorem bag2_tame : tame h (bag2 h b x y) = true := tame_set rfl (tame_self' h)
theorem bag2_self (e : h[b]? = some (.lst [.int x, .int y])) : bag2 h b x y = h := by
  obtain ⟨h1, h2⟩ := List.getElem?_eq_some_iff.mp e
  unfold bag2
  rw [← h2, List.set_getElem_self]
theorem bag2_take : (bag2 h b x y ++ e).take h.length = bag2 h b x y := by
  have := List.take_left (l₁ := bag2 h b x y) (l₂ := e)
  rwa [bag2_len] at this
theorem gc_bag2 {w : W} (hw : w.pure = true) : gc h (.ok w (bag2 h b x y)) = .ok w (bag2 h b x y) := by
  have t := gc_pureT hw (bag2_tame (h := h) (b := b) (x := x) (y := y))
  rw [t]
  congr 1
  rw [← bag2_len (h := h) (b := b) (x := x) (y := y), List.take_length]
theorem gc_bag2L {i : Nat} {ws : List W} (hi : h.length ≤ i) (ei : e[i - h.length]? = some (.lst ws)) (hp : W.pures ws = true) : gc h (.ok (.ref i) (bag2 h b x y ++ e)) = .ok (.fl ws) (bag2 h b x y) := by
  rw [gc_lstT (tame_push bag2_tame e) hi (by rw [List.getElem?_append_right (by simp [hi]), bag2_len]; exact ei) hp, bag2_take]
end
namespace Law
abbrev sY : List Nat := [121]
abbrev sN : List Nat := [110]
/-- a pruning's places, those with n first -/
inductive Cut : Tr → List Nat → List (List Nat) → Prop
  | here (t : Tr) (p : List Nat) : Cut t p [p]
  | split {c : Int} {t u : Tr} {p : List Nat} {A B : List (List Nat)} : Cut t (p ++ sY) A → Cut u (p ++ sN) B → Cut (.fk c t u) p (B ++ A)
theorem Cut.len : ∀ {t : Tr} {p : List Nat} {L : List (List Nat)}, Cut t p L → 1 ≤ L.length ∧ L.length ≤ t.leaves
  | t, _, _, .here _ _ => ⟨Nat.le_refl _, t.leaves_pos⟩
  | _, _, _, .split a b => by
    have := a.len
    have := b.len
    rw [List.length_append]
    show _ ∧ _ ≤ _ + _
    omega
theorem oAdd_flfl {a b : List W} {h : Hs} (hb : a.length + b.length ≤ bigL) : oAdd (.fl a) (.fl b) h = newL (a ++ b) h := by simp [oAdd, hb]
theorem oAdd_str {a b : List Nat} {h : Hs} (hb : a.length + b.length ≤ bigL) : oAdd (.str a) (.str b) h = .ok (.str (a ++ b)) h := by simp [oAdd, hb]
end Law
end PF
namespace PF
namespace Law
/-- a pruning's places, and the forks inside it -/
inductive CutF : Tr → List Nat → List (List Nat) → List (List Nat) → Prop
  | here (t : Tr) (p : List Nat) : CutF t p [p] []
  | split {c : Int} {t u : Tr} {p : List Nat} {A B F G : List (List Nat)} : CutF t (p ++ sY) A F → CutF u (p ++ sN) B G → CutF (.fk c t u) p (B ++ A) (p :: (G ++ F))
theorem Cut.toF : ∀ {t : Tr} {p : List Nat} {L : List (List Nat)}, Cut t p L → ∃ F, CutF t p L F
  | _, _, _, .here t p => ⟨_, .here t p⟩
  | _, _, _, .split a b => by
    obtain ⟨F, f⟩ := a.toF
    obtain ⟨G, g⟩ := b.toF
    exact ⟨_, .split f g⟩
theorem CutF.any : ∀ {t : Tr} {p : List Nat} {L F : List (List Nat)}, CutF t p L F → ∃ q, q ∈ L
  | _, _, _, _, .here t p => ⟨p, List.mem_singleton.mpr rfl⟩
  | _, _, _, _, .split a b => by
    obtain ⟨q, h⟩ := a.any
    exact ⟨q, List.mem_append.mpr (.inr h)⟩
theorem CutF.pre : ∀ {t : Tr} {p : List Nat} {L F : List (List Nat)}, CutF t p L F → (∀ q, q ∈ L → p <+: q) ∧ ∀ q, q ∈ F → p <+: q
  | _, _, _, _, .here t p => ⟨fun q h => by rw [List.mem_singleton.mp h]; exact List.prefix_refl _, fun q h => by cases h⟩
  | _, p, _, _, .split a b => by
    obtain ⟨a1, a2⟩ := a.pre
    obtain ⟨b1, b2⟩ := b.pre
    have up : ∀ (s q : List Nat), (p ++ s) <+: q → p <+: q := fun s q h => (List.prefix_append p s).trans h
    refine ⟨fun q h => ?_, fun q h => ?_⟩
    · rcases List.mem_append.mp h with h | h
      · exact up _ _ (b1 q h)
      · exact up _ _ (a1 q h)
    · rcases List.mem_cons.mp h with rfl | h
      · exact List.prefix_refl _
      · rcases List.mem_append.mp h with h | h
        · exact up _ _ (b2 q h)
        · exact up _ _ (a2 q h)
theorem yn_apart {p q : List Nat} (a : (p ++ sY) <+: q) (b : (p ++ sN) <+: q) : False := by
  obtain ⟨r, rfl⟩ := a
  obtain ⟨s, e⟩ := b
  rw [List.append_assoc, List.append_assoc, List.append_cancel_left_eq] at e
  simp at e
theorem self_apart {p s : List Nat} (hs : s ≠ []) (h : (p ++ s) <+: p) : False := by
  have := h.length_le
  rw [List.length_append] at this
  have : s.length ≠ 0 := fun z => hs (List.length_eq_zero_iff.mp z)
  omega
/-- what a pruning is -/
theorem CutF.facts : ∀ {t : Tr} {p : List Nat} {L F : List (List Nat)}, CutF t p L F → L.Nodup ∧ F.Nodup ∧ (∀ q, q ∈ L → q ∉ F) ∧ (∀ q r, q ∈ L → r ∈ L → q <+: r → q = r) ∧ (∀ f, f ∈ F → ∃ q, q ∈ L ∧ f <+: q) ∧ (∀ q f, q ∈ L → f ∈ F → ¬ q <+: f)
  | _, _, _, _, .here t p => ⟨by simp, by simp, fun q _ h => (by cases h), fun q r h1 h2 _ => by rw [List.mem_singleton.mp h1, List.mem_singleton.mp h2], fun f h => (by cases h), fun q f _ h => (by cases h)⟩
  | _, p, _, _, .split (A := A) (B := B) (F := F) (G := G) a b => by
    obtain ⟨a1, a2⟩ := a.pre
    obtain ⟨b1, b2⟩ := b.pre
    obtain ⟨x1, x2, x3, x4, x5, x6⟩ := a.facts
    obtain ⟨y1, y2, y3, y4, y5, y6⟩ := b.facts
    have ya : ∀ {q}, (p ++ sY) <+: q → (p ++ sN) <+: q → False := fun h1 h2 => yn_apart h1 h2
    refine ⟨?_, ?_, ?_, ?_, ?_, ?_⟩
    · rw [List.nodup_append]
      exact ⟨y1, x1, fun q hq r hr e => ya (a1 r hr) (e ▸ b1 q hq)⟩
    · rw [List.nodup_cons, List.nodup_append]
      refine ⟨fun h => ?_, y2, x2, fun q hq r hr e => ya (a2 r hr) (e ▸ b2 q hq)⟩
      rcases List.mem_append.mp h with h | h
      · exact self_apart (by simp) (b2 p h)
      · exact self_apart (by simp) (a2 p h)
    · intro q hq hf
      rcases List.mem_append.mp hq with hq | hq
      · rcases List.mem_cons.mp hf with rfl | hf
        · exact self_apart (by simp) (b1 _ hq)
        · rcases List.mem_append.mp hf with hf | hf
          · exact y3 q hq hf
          · exact ya (a2 q hf) (b1 q hq)
      · rcases List.mem_cons.mp hf with rfl | hf
        · exact self_apart (by simp) (a1 _ hq)
        · rcases List.mem_append.mp hf with hf | hf
          · exact ya (a1 q hq) (b2 q hf)
          · exact x3 q hq hf
    · intro q r hq hr h
      rcases List.mem_append.mp hq with hq | hq
      · rcases List.mem_append.mp hr with hr | hr
        · exact y4 q r hq hr h
        · exact (ya (a1 r hr) ((b1 q hq).trans h)).elim
      · rcases List.mem_append.mp hr with hr | hr
        · exact (ya ((a1 q hq).trans h) (b1 r hr)).elim
        · exact x4 q r hq hr h
    · intro f hf
      rcases List.mem_cons.mp hf with rfl | hf
      · obtain ⟨q, hq⟩ := a.any
        exact ⟨q, List.mem_append.mpr (.inr hq), (List.prefix_append f sY).trans (a1 q hq)⟩
      · rcases List.mem_append.mp hf with hf | hf
        · obtain ⟨q, hq, h⟩ := y5 f hf
          exact ⟨q, List.mem_append.mpr (.inl hq), h⟩
        · obtain ⟨q, hq, h⟩ := x5 f hf
          exact ⟨q, List.mem_append.mpr (.inr hq), h⟩
    · intro q f hq hf h
      rcases List.mem_append.mp hq with hq | hq
      · rcases List.mem_cons.mp hf with rfl | hf
        · exact self_apart (by simp) ((b1 q hq).trans h)
        · rcases List.mem_append.mp hf with hf | hf
          · exact y6 q f hq hf h
          · exact ya (a2 f hf) ((b1 q hq).trans h)
      · rcases List.mem_cons.mp hf with rfl | hf
        · exact self_apart (by simp) ((a1 q hq).trans h)
        · rcases List.mem_append.mp hf with hf | hf
          · exact ya ((a1 q hq).trans h) (b2 f hf)
          · exact x6 q f hq hf h
end Law
end PF
namespace PF
namespace Law
/-- all places, with what stands there, as the stack tells them -/
def nodesOf : Tr → List Nat → List Pr
  | .en _, p => [(p, tEnd)]
  | .fk _ t u, p => (p, tFork) :: (nodesOf u (p ++ sN) ++ nodesOf t (p ++ sY))
def Tr.nodes : Tr → Nat
  | .en _ => 1
  | .fk _ t u => 1 + t.nodes + u.nodes
theorem nodesOf_len : ∀ (t : Tr) (p : List Nat), (nodesOf t p).length = t.nodes
  | .en _, _ => rfl
  | .fk _ t u, p => by
    rw [nodesOf, List.length_cons, List.length_append, nodesOf_len u, nodesOf_len t, Tr.nodes]; omega
theorem nodes_leaves : ∀ t : Tr, t.nodes + 1 = 2 * t.leaves
  | .en _ => rfl
  | .fk _ t u => by
    have := nodes_leaves t
    have := nodes_leaves u
    show 1 + t.nodes + u.nodes + 1 = 2 * (t.leaves + u.leaves)
    omega
theorem nodes_in : ∀ (t : Tr) (p : List Nat) (q : Pr), q ∈ nodesOf t p → p <+: q.1 ∧ q.1.length ≤ p.length + t.high
  | .en _, p, q, h => by rw [List.mem_singleton.mp h]; exact ⟨List.prefix_refl _, by simp⟩
  | .fk c t u, p, q, h => by
    have hh : (Tr.fk c t u).high = 1 + max t.high u.high := rfl
    rw [hh]
    rcases List.mem_cons.mp h with rfl | h
    · exact ⟨List.prefix_refl _, by simp⟩
    · rcases List.mem_append.mp h with h | h
      · obtain ⟨a, b⟩ := nodes_in u _ q h
        simp at b
        exact ⟨(List.prefix_append p sN).trans a, by omega⟩
      · obtain ⟨a, b⟩ := nodes_in t _ q h
        simp at b
        exact ⟨(List.prefix_append p sY).trans a, by omega⟩
/-- each end begins with a place of any pruning -/
theorem ends_under : ∀ {t : Tr} {p : List Nat} {L : List (List Nat)}, Cut t p L → ∀ q, (q, tEnd) ∈ nodesOf t p → ∃ s, s ∈ L ∧ s <+: q
  | _, _, _, .here t p, q, h => ⟨p, List.mem_singleton.mpr rfl, (nodes_in t p _ h).1⟩
  | _, p, _, .split a b, q, h => by
    rcases List.mem_cons.mp h with h | h
    · have : tEnd = tFork := congrArg Prod.snd h
      exact absurd this (by decide)
    · rcases List.mem_append.mp h with h | h
      · obtain ⟨s, hs, k⟩ := ends_under b q h
        exact ⟨s, List.mem_append.mpr (.inl hs), k⟩
      · obtain ⟨s, hs, k⟩ := ends_under a q h
        exact ⟨s, List.mem_append.mpr (.inr hs), k⟩
def todoW (x : List Nat × Tr) : W := .tup [.str x.1, trW x.2]
def restOf : List (List Nat × Tr) → List Pr
  | [] => []
  | x :: st => nodesOf x.2 x.1 ++ restOf st
theorem nodes_pos : ∀ (t : Tr) (p : List Nat), 0 < (nodesOf t p).length := fun t p => by
  cases t <;> simp [nodesOf]
theorem rest_len : ∀ st : List (List Nat × Tr), st.length ≤ (restOf st).length
  | [] => Nat.le_refl _
  | x :: st => by
    have := rest_len st
    have := nodes_pos x.2 x.1
    rw [restOf, List.length_append, List.length_cons]; omega
end Law
end PF
namespace PF
namespace Law
/-- a tree whose costs are told by g -/
def trF (g : Int → W) : Tr → W
  | .en c => .tup [.str tEnd, g c]
  | .fk c t u => .tup [.str tFork, g c, trF g t, trF g u]
theorem trF_pure {g : Int → W} (hg : ∀ c, (g c).pure = true) : ∀ t : Tr, (trF g t).pure = true
  | .en c => by rw [trF]; simp [hg]
  | .fk c t u => by rw [trF]; simp [trF_pure hg t, trF_pure hg u, hg]
def kindOf : Tr → List Nat
  | .en _ => tEnd
  | .fk _ _ _ => tFork
end Law
end PF
namespace PF
namespace Law
def pickK (k : List Nat) (ps : List Pr) : List (List Nat) := (ps.filter fun q => decide (q.2 = k)).map Prod.fst
end Law
end PF
namespace PF
namespace Law
/-! what is a pruning -/
theorem lt_pre : ∀ {p q : List Nat}, p <+: q → p ≠ q → p < q
  | [], [], _, h => absurd rfl h
  | [], _ :: _, _, _ => List.nil_lt_cons _ _
  | a :: p, [], h, _ => by simp at h
  | a :: p, b :: q, h0, n => by
    obtain ⟨rfl, h⟩ := List.cons_prefix_cons.mp h0
    exact List.cons_lt_cons_iff.mpr (.inr ⟨rfl, lt_pre h fun e => n (by rw [e])⟩)
theorem lt_ny : ∀ {p q r : List Nat}, (p ++ sN) <+: q → (p ++ sY) <+: r → q < r
  | [], q, r, h, k => by
    obtain ⟨s, rfl⟩ := h
    obtain ⟨u, rfl⟩ := k
    exact List.cons_lt_cons_iff.mpr (.inl (by decide))
  | a :: p, [], r, h, _ => by simp at h
  | a :: p, b :: q, [], _, k => by simp at k
  | a :: p, b :: q, c :: r, h0, k0 => by
    obtain ⟨rfl, h⟩ := List.cons_prefix_cons.mp h0
    obtain ⟨rfl, k⟩ := List.cons_prefix_cons.mp k0
    exact List.cons_lt_cons_iff.mpr (.inr ⟨rfl, lt_ny h k⟩)
theorem nodes_up : ∀ (t : Tr) (p : List Nat), ((nodesOf t p).map Prod.fst).Pairwise (· < ·)
  | .en _, p => by simp [nodesOf]
  | .fk c t u, p => by
    rw [nodesOf, List.map_cons, List.map_append]
    have hN : ∀ q, q ∈ (nodesOf u (p ++ sN)).map Prod.fst → (p ++ sN) <+: q := fun q hq => by
      obtain ⟨x, hx, rfl⟩ := List.mem_map.mp hq
      exact (nodes_in u _ x hx).1
    have hY : ∀ q, q ∈ (nodesOf t (p ++ sY)).map Prod.fst → (p ++ sY) <+: q := fun q hq => by
      obtain ⟨x, hx, rfl⟩ := List.mem_map.mp hq
      exact (nodes_in t _ x hx).1
    refine List.pairwise_cons.mpr ⟨fun q hq => ?_, List.pairwise_append.mpr ⟨nodes_up u _, nodes_up t _, fun a ha b hb => lt_ny (hN a ha) (hY b hb)⟩⟩
    rcases List.mem_append.mp hq with hq | hq
    · exact lt_pre ((List.prefix_append p sN).trans (hN q hq)) fun e => self_apart (s := sN) (by simp) (by have := hN q hq; rw [← e] at this; exact this)
    · exact lt_pre ((List.prefix_append p sY).trans (hY q hq)) fun e => self_apart (s := sY) (by simp) (by have := hY q hq; rw [← e] at this; exact this)
theorem lt_le {a b : List Nat} (h : a < b) : a ≤ b := List.le_of_lt h
theorem lt_irr {a : List Nat} : ¬ a < a := List.lt_irrefl a
theorem kind_up (k : List Nat) (t : Tr) (p : List Nat) : (pickK k (nodesOf t p)).Pairwise (· < ·) := by
  have := nodes_up t p
  unfold pickK
  exact this.sublist (List.filter_sublist.map Prod.fst)
theorem up_sortS {l : List (List Nat)} (h : l.Pairwise (· < ·)) : sortS l = l := (sortS_of (List.Perm.refl _) (h.imp lt_le)).symm
theorem up_nodup {l : List (List Nat)} (h : l.Pairwise (· < ·)) : l.Nodup := h.imp fun {a b} (h : a < b) (e : a = b) => by rw [e] at h; exact lt_irr h
theorem nodes_sortP (t : Tr) (p : List Nat) : sortP (nodesOf t p) = nodesOf t p := (sortP_of (List.Perm.refl _) ((List.pairwise_map.mp (nodes_up t p)).imp fun h => lePr_iff.mpr (.inl h))).symm
theorem up_iff {l : List (List Nat)} : sortS (nub l) = l ↔ l.Pairwise (· < ·) := by
  constructor
  · intro e
    have h1 := sortS_pw (nub l)
    have h2 : (sortS (nub l)).Nodup := (sortS_perm _).nodup_iff.mpr (nub_nodup l)
    rw [e] at h1 h2
    exact (h1.and h2).imp fun ⟨a, b⟩ => by
      rcases List.le_iff_lt_or_eq.mp a with h | h
      · exact h
      · exact absurd h b
  · intro h
    exact (sortS_of (nub_perm (up_nodup h) fun _ => Iff.rfl) (h.imp lt_le)).symm
end Law
end PF
namespace PF
/-! ### plain arithmetic -/
theorem abs_nat (i : Int) : (if i < 0 then -i else i) = ((i.natAbs : Nat) : Int) := by
  split <;> omega
namespace Law
/-- in lowest terms, a bottom above 0 -/
def low (t b : Int) : W := .tup [.int (t.fdiv (Int.gcd t b)), .int (b.fdiv (Int.gcd t b))]
theorem gcd_div {t b : Int} (hb : b ≠ 0) (hl : b.natAbs < 2 ^ 9000) (i : Int) : divOK i (Int.gcd t b) := by
  have hp : 0 < Int.gcd t b := Int.gcd_pos_of_ne_zero_right t hb
  refine ⟨by omega, ?_⟩
  have h1 : Int.gcd t b ≤ b.natAbs := Nat.le_of_dvd (by omega) (Nat.gcd_dvd_right _ _)
  have : limbs (Int.gcd t b) ≤ 300 := limbs_of (by rw [Int.natAbs_natCast]; omega)
  simp; intro z; omega
/-- a ratio as a value -/
def rat (q : Rat) : W := .tup [.int q.num, .int q.den]
@[simp] theorem rat_pure (q : Rat) : (rat q).pure = true := rfl
@[simp] theorem rat_pl (n : Nat) (q : Rat) : W.pl (n + 1) (rat q) = true := by simp [rat]
theorem rat_inj {p q : Rat} : rat p = rat q ↔ p = q := by
  refine ⟨fun h => ?_, fun h => by rw [h]⟩
  have h1 : p.num = q.num ∧ (p.den : Int) = q.den := by simpa [rat] using h
  exact Rat.ext h1.1 (by omega)
@[simp] theorem rat_0 (q : Rat) (h : Hs) : oIx (rat q) (.int 0) h = .ok (.int q.num) h := oIx_t0
@[simp] theorem rat_1 (q : Rat) (h : Hs) : oIx (rat q) (.int 1) h = .ok (.int q.den) h := oIx_t1
theorem low_rat (t b : Int) (h0 : 0 < b) : low t b = rat (Rat.divInt t b) := by
  unfold low rat
  have hg : (0 : Int) ≤ (Int.gcd t b : Nat) := by omega
  have e1 : t.fdiv (Int.gcd t b) = (Rat.divInt t b).num := by
    rw [Int.fdiv_eq_ediv_of_nonneg _ hg, Rat.num_divInt, Int.sign_eq_one_of_pos h0, Int.one_mul, Int.gcd_comm]
  have e2 : b.fdiv (Int.gcd t b) = ((Rat.divInt t b).den : Nat) := by
    rw [Int.fdiv_eq_ediv_of_nonneg _ hg, Rat.den_divInt, if_neg (by omega), Int.gcd_comm, Int.natCast_ediv, Int.natAbs_of_nonneg (by omega)]
  rw [e1, e2]
/-- of so many bits -/
def RB (n : Nat) (q : Rat) : Prop := q.num.natAbs < 2 ^ n ∧ q.den < 2 ^ n
theorem RB.le {m n : Nat} {q : Rat} (r : RB m q) (h : m ≤ n) : RB n q := ⟨Nat.lt_of_lt_of_le r.1 (Nat.pow_le_pow_right (by omega) h), Nat.lt_of_lt_of_le r.2 (Nat.pow_le_pow_right (by omega) h)⟩
theorem rb_of {n : Nat} {t b : Int} (h0 : 0 < b) (h1 : b.natAbs < 2 ^ n) (h2 : t.natAbs < 2 ^ n) : RB n (Rat.divInt t b) := by
  have hg : 0 < b.gcd t := Int.gcd_pos_of_ne_zero_left _ (by omega)
  constructor
  · rw [Rat.num_divInt, Int.sign_eq_one_of_pos h0, Int.one_mul]
    refine Nat.lt_of_le_of_lt ?_ h2
    rw [Int.natAbs_ediv_of_dvd (Int.gcd_dvd_right ..)]
    exact Nat.div_le_self _ _
  · rw [Rat.den_divInt, if_neg (by omega)]
    exact Nat.lt_of_le_of_lt (Nat.div_le_self _ _) h1
theorem bits_mul {x y : Nat} {a b : Nat} (hx : x < 2 ^ a) (hy : y < 2 ^ b) : x * y < 2 ^ (a + b) := by
  rw [Nat.pow_add]
  rcases Nat.eq_zero_or_pos x with z | z
  · rw [z, Nat.zero_mul]; exact Nat.mul_pos (Nat.two_pow_pos a) (Nat.two_pow_pos b)
  · exact Nat.mul_lt_mul'' hx hy
theorem bitsI_mul {x y : Int} {a b : Nat} (hx : x.natAbs < 2 ^ a) (hy : y.natAbs < 2 ^ b) : (x * y).natAbs < 2 ^ (a + b) := by
  rw [Int.natAbs_mul]
  exact bits_mul hx hy
theorem bitsI_add {x y : Int} {a : Nat} (hx : x.natAbs < 2 ^ a) (hy : y.natAbs < 2 ^ a) : (x + y).natAbs < 2 ^ (a + 1) := by
  have := Int.natAbs_add_le x y
  rw [Nat.pow_succ]
  omega
theorem bitsI_sub {x y : Int} {a : Nat} (hx : x.natAbs < 2 ^ a) (hy : y.natAbs < 2 ^ a) : (x - y).natAbs < 2 ^ (a + 1) := by
  have := Int.natAbs_sub_le x y
  rw [Nat.pow_succ]
  omega
theorem den_pos (q : Rat) : (0 : Int) < q.den := by have := q.den_nz; omega
theorem rat_self (q : Rat) : Rat.divInt q.num q.den = q := Rat.num_divInt_den q
theorem rat_add (p q : Rat) : Rat.divInt (p.num * q.den + q.num * p.den) (p.den * q.den) = p + q := by
  rw [← Rat.divInt_add_divInt _ _ (by have := den_pos p; omega) (by have := den_pos q; omega), rat_self, rat_self]
theorem RB.add {m n : Nat} {p q : Rat} (r : RB m p) (s : RB n q) : RB (m + n + 1) (p + q) := by
  rw [← rat_add]
  have a1 := bitsI_mul (y := q.den) r.1 (by rw [Int.natAbs_natCast]; exact s.2)
  have a2 := bitsI_mul (y := p.den) s.1 (by rw [Int.natAbs_natCast]; exact r.2)
  have a3 := bits_mul r.2 s.2
  rw [Nat.add_comm n m] at a2
  refine rb_of (Int.mul_pos (den_pos p) (den_pos q)) ?_ (bitsI_add a1 a2)
  rw [← Int.natCast_mul, Int.natAbs_natCast]
  exact Nat.lt_of_lt_of_le a3 (Nat.pow_le_pow_right (by omega) (by omega))
theorem RB.neg {m : Nat} {p : Rat} (r : RB m p) : RB m (-p) := by
  constructor
  · rw [Rat.neg_num, Int.natAbs_neg]; exact r.1
  · rw [Rat.neg_den]; exact r.2
theorem RB.sub {m n : Nat} {p q : Rat} (r : RB m p) (s : RB n q) : RB (m + n + 1) (p - q) := by
  rw [Rat.sub_eq_add_neg]
  exact r.add s.neg
theorem mulOK_b {i j : Int} {a b : Nat} (hi : i.natAbs < 2 ^ a) (hj : j.natAbs < 2 ^ b) (hs : a + b ≤ 900000) : mulOK i j := mulOK_of hi hj hs
theorem RB.d {n : Nat} {q : Rat} (r : RB n q) : ((q.den : Int)).natAbs < 2 ^ n := by rw [Int.natAbs_natCast]; exact r.2
end Law
end PF
namespace PF
namespace Law
theorem trg0 (g : Int → W) (t : Tr) (h : Hs) : oIx (trF g t) (.int 0) h = .ok (.str (kindOf t)) h := by cases t <;> exact oIx_t0
def tcost : Tr → Int
  | .en c => c
  | .fk c _ _ => c
theorem trg1 (g : Int → W) (t : Tr) (h : Hs) : oIx (trF g t) (.int 1) h = .ok (g (tcost t)) h := by cases t <;> exact oIx_t1
theorem tcost_sz {B : Int} {t : Tr} (k : t.costs B) : -B ≤ tcost t ∧ tcost t ≤ B := by
  cases t with
  | en c => exact k
  | fk c t u => exact k.1
/-- a pruning with the sum of its costs -/
inductive CutS : Tr → List Nat → List (List Nat) → Int → Prop
  | here (t : Tr) (p : List Nat) : CutS t p [p] (tcost t)
  | split {c a b : Int} {t u : Tr} {p : List Nat} {A B : List (List Nat)} : CutS t (p ++ sY) A a → CutS u (p ++ sN) B b → CutS (.fk c t u) p (B ++ A) (a + b)
theorem CutS.cut : ∀ {t : Tr} {p : List Nat} {L : List (List Nat)} {s : Int}, CutS t p L s → Cut t p L
  | _, _, _, _, .here t p => .here t p
  | _, _, _, _, .split a b => .split a.cut b.cut
theorem Cut.sum : ∀ {t : Tr} {p : List Nat} {L : List (List Nat)}, Cut t p L → ∃ s, CutS t p L s
  | _, _, _, .here t p => ⟨_, .here t p⟩
  | _, _, _, .split a b => by
    obtain ⟨s, hs⟩ := a.sum
    obtain ⟨r, hr⟩ := b.sum
    exact ⟨_, .split hs hr⟩
theorem CutS.sz {M : Int} : ∀ {t : Tr} {p : List Nat} {L : List (List Nat)} {s : Int}, CutS t p L s → t.costs M → -(L.length * M) ≤ s ∧ s ≤ L.length * M
  | _, _, _, _, .here t p, k => by
    have := tcost_sz k
    simp
    omega
  | _, _, _, _, .split (A := A) (B := B) x y, k => by
    have h1 := x.sz k.2.1
    have h2 := y.sz k.2.2
    rw [List.length_append]
    have e : ((B.length + A.length : Nat) : Int) * M = B.length * M + A.length * M := by
      rw [Int.natCast_add, Int.add_mul]
    rw [e]
    omega
/-- what a pruning costs at a price -/
def val (B : Int) (y : Rat) (s : Int) (n : Nat) : Rat := Rat.divInt s B + y * ((n : Int) : Rat)
def bst (B : Int) (y : Rat) : Tr → List Nat → Rat × List (List Nat)
  | .en c, p => (Rat.divInt c B + y, [p])
  | .fk c t u, p => if (bst B y t (p ++ sY)).1 + (bst B y u (p ++ sN)).1 < Rat.divInt c B + y then ((bst B y t (p ++ sY)).1 + (bst B y u (p ++ sN)).1, (bst B y u (p ++ sN)).2 ++ (bst B y t (p ++ sY)).2) else (Rat.divInt c B + y, [p])
theorem div_sum {a b c : Int} (hc : 0 < c) : Rat.divInt a c + Rat.divInt b c = Rat.divInt (a + b) c := by
  simp only [Rat.divInt_eq_div, Rat.intCast_add]
  have h1 : (0 : Rat) < (c : Rat) := by
    have : ((0 : Int) : Rat) < (c : Rat) := Rat.intCast_lt_intCast.mpr hc
    rwa [Rat.intCast_zero] at this
  generalize (c : Rat) = z at *
  have : z ≠ 0 := by grind
  grind
theorem val_add {B : Int} (hB : 0 < B) (y : Rat) (a b : Int) (m n : Nat) : val B y a m + val B y b n = val B y (a + b) (m + n) := by
  unfold val
  rw [← div_sum hB, Int.natCast_add, Rat.intCast_add]
  grind
theorem val_one {B : Int} (y : Rat) (c : Int) : val B y c 1 = Rat.divInt c B + y := by
  unfold val
  have : (((1 : Nat) : Int) : Rat) = 1 := rfl
  rw [this]
  grind
theorem bst_cut {B : Int} (hB : 0 < B) (y : Rat) : ∀ (t : Tr) (p : List Nat), ∃ s, CutS t p (bst B y t p).2 s ∧ (bst B y t p).1 = val B y s (bst B y t p).2.length
  | .en c, p => ⟨c, .here (.en c) p, by rw [bst]; exact (val_one y c).symm⟩
  | .fk c t u, p => by
    obtain ⟨a, a1, a2⟩ := bst_cut hB y t (p ++ sY)
    obtain ⟨b, b1, b2⟩ := bst_cut hB y u (p ++ sN)
    rw [bst]
    split
    · refine ⟨a + b, .split a1 b1, ?_⟩
      show _ = val B y (a + b) ((bst B y u (p ++ sN)).2 ++ (bst B y t (p ++ sY)).2).length
      rw [List.length_append, Nat.add_comm, ← val_add hB, a2, b2]
    · exact ⟨c, .here (.fk c t u) p, (val_one y c).symm⟩
/-- no pruning is cheaper, and in one as cheap it lies -/
theorem bst_least {B : Int} (hB : 0 < B) (y : Rat) : ∀ {t : Tr} {p : List Nat} {L : List (List Nat)} {s : Int}, CutS t p L s → (bst B y t p).1 ≤ val B y s L.length ∧ ((bst B y t p).1 = val B y s L.length → ∀ q, q ∈ L → ∃ r, r ∈ (bst B y t p).2 ∧ r <+: q)
  | _, _, _, _, .here (.en c) p => by
    rw [bst]
    refine ⟨by rw [List.length_singleton, val_one]; exact Rat.le_refl, fun _ q hq => ⟨q, hq, List.prefix_refl _⟩⟩
  | _, _, _, _, .here (.fk c t u) p => by
    rw [bst]
    have e : val B y (tcost (.fk c t u)) ([p] : List (List Nat)).length = Rat.divInt c B + y := val_one y c
    split
    · rename_i k
      refine ⟨by rw [e]; show _ + _ ≤ _; grind, fun h => ?_⟩
      rw [e] at h
      have h : (bst B y t (p ++ sY)).1 + (bst B y u (p ++ sN)).1 = Rat.divInt c B + y := h
      grind
    · refine ⟨by rw [e]; exact Rat.le_refl, fun _ q hq => ⟨q, hq, List.prefix_refl _⟩⟩
  | _, p, _, _, .split (c := c) (a := a) (b := b) (t := t) (u := u) (A := A) (B := B2) x z => by
    obtain ⟨a1, a2⟩ := bst_least hB y x
    obtain ⟨b1, b2⟩ := bst_least hB y z
    have e : val B y (a + b) (B2 ++ A).length = val B y a A.length + val B y b B2.length := by
      rw [List.length_append, Nat.add_comm, val_add hB]
    have px := x.cut.toF
    have pz := z.cut.toF
    rw [bst, e]
    split
    · refine ⟨by show _ + _ ≤ _; grind, fun h q hq => ?_⟩
      have h : (bst B y t (p ++ sY)).1 + (bst B y u (p ++ sN)).1 = val B y a A.length + val B y b B2.length := h
      rcases List.mem_append.mp hq with hq | hq
      · obtain ⟨r, hr, k⟩ := b2 (by grind) q hq
        exact ⟨r, List.mem_append.mpr (.inl hr), k⟩
      · obtain ⟨r, hr, k⟩ := a2 (by grind) q hq
        exact ⟨r, List.mem_append.mpr (.inr hr), k⟩
    · refine ⟨by show Rat.divInt c B + y ≤ _; grind, fun _ q hq => ⟨p, List.mem_singleton.mpr rfl, ?_⟩⟩
      obtain ⟨F, fx⟩ := px
      obtain ⟨G, fz⟩ := pz
      rcases List.mem_append.mp hq with hq | hq
      · exact (List.prefix_append p sN).trans (fz.pre.1 q hq)
      · exact (List.prefix_append p sY).trans (fx.pre.1 q hq)
theorem rb_val {B : Int} (hB : 0 < B ∧ B < 2 ^ 100) {y : Rat} (ry : RB 900 y) {s : Int} {n : Nat} (hs : s.natAbs < 2 ^ 119) (hn : n < 2 ^ 20) : RB 1100 (val B y s n) := by
  have r1 : RB 120 (Rat.divInt s B) := rb_of hB.1 (by omega) (by omega)
  have r2 : RB 20 ((n : Int) : Rat) := ⟨by show ((n : Int)).natAbs < 2 ^ 20; omega, by show 1 < 2 ^ 20; omega⟩
  -- y n by hand: the product keeps y's bits
  have r3 : RB 920 (y * ((n : Int) : Rat)) := by
    have e : y * ((n : Int) : Rat) = Rat.divInt (y.num * n) y.den := by
      conv => lhs; rw [← rat_self y]
      rw [Rat.divInt_eq_div, Rat.divInt_eq_div, Rat.intCast_mul]
      have h1 : (0 : Rat) < ((y.den : Int) : Rat) := by
        have : ((0 : Int) : Rat) < ((y.den : Int) : Rat) := Rat.intCast_lt_intCast.mpr (den_pos y)
        rwa [Rat.intCast_zero] at this
      generalize ((y.den : Int) : Rat) = z at *
      have : z ≠ 0 := by grind
      grind
    rw [e]
    exact rb_of (den_pos y) (Nat.lt_of_lt_of_le ry.d (Nat.pow_le_pow_right (by omega) (by omega))) (bitsI_mul (a := 900) (b := 20) ry.1 (by omega))
  exact (r1.add r3).le (by omega)
theorem bst_rb {B : Int} (hB : 0 < B ∧ B < 2 ^ 100) {y : Rat} (ry : RB 900 y) (t : Tr) (p : List Nat) (tc : t.costs (2 ^ 105)) (hl : t.leaves ≤ 100) : RB 1100 (bst B y t p).1 := by
  obtain ⟨s, c, e⟩ := bst_cut hB.1 y t p
  have sz := c.sz tc
  have ln := c.cut.len
  rw [e]
  generalize (bst B y t p).2.length = n at *
  have : (n : Int) * 2 ^ 105 ≤ 100 * 2 ^ 105 := Int.mul_le_mul_of_nonneg_right (by omega) (by omega)
  exact rb_val hB ry (by omega) (by omega)
end Law
end PF
namespace PF
namespace Law
theorem divInt_le {x y c : Int} (hc : 0 < c) : Rat.divInt x c ≤ Rat.divInt y c ↔ x ≤ y := by
  rw [Rat.divInt_eq_div, Rat.divInt_eq_div]
  have h1 : (0 : Rat) < (c : Rat) := by
    have : ((0 : Int) : Rat) < (c : Rat) := Rat.intCast_lt_intCast.mpr hc
    rwa [Rat.intCast_zero] at this
  have e : (x : Rat) / (c : Rat) * (c : Rat) = x := by
    generalize (c : Rat) = z at *
    have : z ≠ 0 := by grind
    grind
  rw [← Rat.not_lt, Rat.div_lt_iff h1, e, Rat.intCast_lt_intCast]
  omega
theorem val_tot {B b : Int} (hB : 0 < B) (hb : 0 < b) (a s : Int) (n : Nat) : val B (Rat.divInt a b) s n = Rat.divInt (s * b + a * n * B) (B * b) := by
  unfold val
  obtain ⟨m, hm⟩ : ∃ m : Int, m = (n : Int) := ⟨_, rfl⟩
  rw [← hm]
  simp only [Rat.divInt_eq_div, Rat.intCast_add, Rat.intCast_mul]
  have h1 : (0 : Rat) < (B : Rat) := by
    have : ((0 : Int) : Rat) < (B : Rat) := Rat.intCast_lt_intCast.mpr hB
    rwa [Rat.intCast_zero] at this
  have h2 : (0 : Rat) < (b : Rat) := by
    have : ((0 : Int) : Rat) < (b : Rat) := Rat.intCast_lt_intCast.mpr hb
    rwa [Rat.intCast_zero] at this
  generalize (B : Rat) = u at *
  generalize (b : Rat) = v at *
  have n1 : u ≠ 0 := by grind
  have n2 : v ≠ 0 := by grind
  grind
end Law
end PF
namespace PF
namespace Law
/-! the links of the best pruning at a price, and the next price -/
def bsm (B : Int) (y : Rat) : Tr → Int
  | .en c => c
  | .fk c t u => if (bst B y t []).1 + (bst B y u []).1 < Rat.divInt c B + y then bsm B y t + bsm B y u else c
theorem bst_any (B : Int) (y : Rat) : ∀ (t : Tr) (p q : List Nat), (bst B y t p).1 = (bst B y t q).1 ∧ (bst B y t p).2.length = (bst B y t q).2.length
  | .en c, p, q => ⟨rfl, rfl⟩
  | .fk c t u, p, q => by
    obtain ⟨a1, a2⟩ := bst_any B y t (p ++ sY) (q ++ sY)
    obtain ⟨b1, b2⟩ := bst_any B y u (p ++ sN) (q ++ sN)
    rw [bst, bst, a1, b1]
    split
    · exact ⟨rfl, by dsimp only; rw [List.length_append, List.length_append, a2, b2]⟩
    · exact ⟨rfl, rfl⟩
def bv (B : Int) (y : Rat) (t : Tr) : Rat := (bst B y t []).1
def bn (B : Int) (y : Rat) (t : Tr) : Nat := (bst B y t []).2.length
theorem bv_of {B : Int} {y : Rat} {t : Tr} (p : List Nat) : (bst B y t p).1 = bv B y t := (bst_any B y t p []).1
theorem bn_of {B : Int} {y : Rat} {t : Tr} (p : List Nat) : (bst B y t p).2.length = bn B y t := (bst_any B y t p []).2
/-- the fork is inside -/
def ins (B : Int) (y : Rat) (c : Int) (t u : Tr) : Prop := bv B y t + bv B y u < Rat.divInt c B + y
instance (B : Int) (y : Rat) (c : Int) (t u : Tr) : Decidable (ins B y c t u) := inferInstanceAs (Decidable (_ < _))
theorem bst_fk (B : Int) (y : Rat) (c : Int) (t u : Tr) (p : List Nat) : bst B y (.fk c t u) p = if ins B y c t u then (bv B y t + bv B y u, (bst B y u (p ++ sN)).2 ++ (bst B y t (p ++ sY)).2) else (Rat.divInt c B + y, [p]) := by
  rw [bst, bv_of, bv_of]; rfl
theorem bv_fk (B : Int) (y : Rat) (c : Int) (t u : Tr) : bv B y (.fk c t u) = if ins B y c t u then bv B y t + bv B y u else Rat.divInt c B + y := by
  unfold bv
  rw [bst_fk]
  split <;> rfl
theorem bn_fk (B : Int) (y : Rat) (c : Int) (t u : Tr) : bn B y (.fk c t u) = if ins B y c t u then bn B y t + bn B y u else 1 := by
  have := bn_of (B := B) (y := y) (t := .fk c t u) []
  rw [← this, bst_fk]
  split
  · dsimp only
    rw [List.length_append, bn_of, bn_of, Nat.add_comm]
  · rfl
theorem bsm_fk (B : Int) (y : Rat) (c : Int) (t u : Tr) : bsm B y (.fk c t u) = if ins B y c t u then bsm B y t + bsm B y u else c := rfl
theorem bst_S {B : Int} (y : Rat) : ∀ (t : Tr) (p : List Nat), CutS t p (bst B y t p).2 (bsm B y t)
  | .en c, p => .here (.en c) p
  | .fk c t u, p => by
    rw [bst_fk, bsm_fk]
    split
    · exact .split (bst_S y t _) (bst_S y u _)
    · exact .here (.fk c t u) p
theorem bn_pos (B : Int) (y : Rat) (t : Tr) : 1 ≤ bn B y t := ((bst_S (B := B) y t []).cut.len).1
theorem bv_val {B : Int} (hB : 0 < B) (y : Rat) : ∀ t : Tr, bv B y t = val B y (bsm B y t) (bn B y t)
  | .en c => (val_one y c).symm
  | .fk c t u => by
    rw [bv_fk, bsm_fk, bn_fk]
    split
    · rw [bv_val hB y t, bv_val hB y u, val_add hB]
    · exact (val_one y c).symm
/-- the link of a fork inside -/
def lk (B : Int) (y : Rat) (c : Int) (t u : Tr) : Rat := (Rat.divInt c B - Rat.divInt (bsm B y t + bsm B y u) B) / (((bn B y t + bn B y u : Nat) : Int) - 1 : Int)
def lnk (B : Int) (y : Rat) : Tr → List Nat → List (List Nat × Rat)
  | .en _, _ => []
  | .fk c t u, p => if ins B y c t u then (p, lk B y c t u) :: (lnk B y u (p ++ sN) ++ lnk B y t (p ++ sY)) else []
theorem castR (a b : Int) : ((a - b : Int) : Rat) = (a : Rat) - (b : Rat) := Rat.intCast_sub a b
theorem lk_le {B : Int} (y z : Rat) (c : Int) (t u : Tr) : z ≤ lk B y c t u ↔ val B z (bsm B y t + bsm B y u) (bn B y t + bn B y u) ≤ Rat.divInt c B + z := by
  have h1 := bn_pos B y t
  have h2 := bn_pos B y u
  unfold lk val
  have hp : (0 : Rat) < ((((bn B y t + bn B y u : Nat) : Int) - 1 : Int) : Rat) := by
    have : ((0 : Int) : Rat) < ((((bn B y t + bn B y u : Nat) : Int) - 1 : Int) : Rat) := Rat.intCast_lt_intCast.mpr (by omega)
    rwa [Rat.intCast_zero] at this
  rw [castR] at hp ⊢
  generalize (((bn B y t + bn B y u : Nat) : Int) : Rat) = n at *
  generalize Rat.divInt (bsm B y t + bsm B y u) B = s at *
  generalize Rat.divInt c B = d at *
  have e1 : ((1 : Int) : Rat) = 1 := rfl
  rw [e1] at hp ⊢
  rw [← Rat.not_lt, Rat.div_lt_iff hp]
  grind
theorem lk_lt {B : Int} (y z : Rat) (c : Int) (t u : Tr) : z < lk B y c t u ↔ val B z (bsm B y t + bsm B y u) (bn B y t + bn B y u) < Rat.divInt c B + z := by
  have h1 := bn_pos B y t
  have h2 := bn_pos B y u
  unfold lk val
  have hp : (0 : Rat) < ((((bn B y t + bn B y u : Nat) : Int) - 1 : Int) : Rat) := by
    have : ((0 : Int) : Rat) < ((((bn B y t + bn B y u : Nat) : Int) - 1 : Int) : Rat) := Rat.intCast_lt_intCast.mpr (by omega)
    rwa [Rat.intCast_zero] at this
  rw [castR] at hp ⊢
  generalize (((bn B y t + bn B y u : Nat) : Int) : Rat) = n at *
  generalize Rat.divInt (bsm B y t + bsm B y u) B = s at *
  generalize Rat.divInt c B = d at *
  have e1 : ((1 : Int) : Rat) = 1 := rfl
  rw [e1] at hp ⊢
  rw [Rat.lt_div_iff hp]
  grind
/-- dearer leaves: every pruning costs at least so much more -/
theorem bv_mono {B : Int} (hB : 0 < B) {y z : Rat} (h : y ≤ z) (t : Tr) : bv B y t + (z - y) ≤ bv B z t := by
  have h1 := bv_val hB z t
  have c := bst_S (B := B) z t []
  have h2 := (bst_least hB y c).1
  have h3 : (bst B z t []).2.length = bn B z t := rfl
  have h4 : (bst B y t []).1 = bv B y t := rfl
  rw [h3, h4] at h2
  have np := bn_pos B z t
  have np2 : (1 : Rat) ≤ (((bn B z t : Nat) : Int) : Rat) := by
    have : ((1 : Int) : Rat) ≤ (((bn B z t : Nat) : Int) : Rat) := Rat.intCast_le_intCast.mpr (by omega)
    exact this
  unfold val at h1 h2
  rw [h1]
  generalize (((bn B z t : Nat) : Int) : Rat) = n at *
  generalize Rat.divInt (bsm B z t) B = s at *
  have : 0 ≤ (z - y) * (n - 1) := Rat.mul_nonneg (by grind) (by grind)
  grind
/-- what is cut stays cut -/
theorem ins_mono {B : Int} (hB : 0 < B) {y z : Rat} (h : y ≤ z) {c : Int} {t u : Tr} (k : ¬ ins B y c t u) : ¬ ins B z c t u := by
  unfold ins at *
  have h1 := bv_mono hB h t
  have h2 := bv_mono hB h u
  grind
/-- at a price no link is below, the row of leaves keeps the least total -/
theorem bv_keep {B : Int} (hB : 0 < B) {y z : Rat} (h : y ≤ z) : ∀ (t : Tr) (p : List Nat), (∀ x, x ∈ lnk B y t p → z ≤ x.2) → bv B z t = val B z (bsm B y t) (bn B y t)
  | .en c, p, _ => (val_one z c).symm
  | .fk c t u, p, hl => by
    rw [lnk] at hl
    rw [bv_fk, bsm_fk, bn_fk]
    by_cases k : ins B y c t u
    · rw [if_pos k] at hl
      rw [if_pos k, if_pos k]
      have l0 := hl _ (List.mem_cons_self ..)
      have h1 := bv_keep hB h t (p ++ sY) fun x hx => hl x (List.mem_cons_of_mem _ (List.mem_append.mpr (.inr hx)))
      have h2 := bv_keep hB h u (p ++ sN) fun x hx => hl x (List.mem_cons_of_mem _ (List.mem_append.mpr (.inl hx)))
      have l1 := (lk_le y z c t u).mp l0
      have e : bv B z t + bv B z u = val B z (bsm B y t + bsm B y u) (bn B y t + bn B y u) := by rw [h1, h2, val_add hB]
      by_cases n : ins B z c t u
      · rw [if_pos n, e]
      · rw [if_neg n]
        unfold ins at n
        rw [e] at n
        exact Rat.le_antisymm (Rat.not_lt.mp n) l1
    · rw [if_neg k, if_neg k, if_neg (ins_mono hB h k), val_one]
/-- inside yet at the next price: the forks with a greater link -/
theorem ins_next {B : Int} (hB : 0 < B) {y z : Rat} (h : y ≤ z) (c : Int) (t u : Tr) (p : List Nat) (hl : ∀ x, x ∈ lnk B y (.fk c t u) p → z ≤ x.2) : ins B z c t u ↔ ins B y c t u ∧ z < lk B y c t u := by
  constructor
  · intro k
    have i : ins B y c t u := Decidable.byContradiction fun n => ins_mono hB h n k
    refine ⟨i, (lk_lt y z c t u).mpr ?_⟩
    rw [lnk, if_pos i] at hl
    have h1 := bv_keep hB h t (p ++ sY) fun x hx => hl x (List.mem_cons_of_mem _ (List.mem_append.mpr (.inr hx)))
    have h2 := bv_keep hB h u (p ++ sN) fun x hx => hl x (List.mem_cons_of_mem _ (List.mem_append.mpr (.inl hx)))
    unfold ins at k
    rwa [h1, h2, val_add hB] at k
  · rintro ⟨i, k⟩
    have k := (lk_lt y z c t u).mp k
    rw [lnk, if_pos i] at hl
    have h1 := bv_keep hB h t (p ++ sY) fun x hx => hl x (List.mem_cons_of_mem _ (List.mem_append.mpr (.inr hx)))
    have h2 := bv_keep hB h u (p ++ sN) fun x hx => hl x (List.mem_cons_of_mem _ (List.mem_append.mpr (.inl hx)))
    unfold ins
    rwa [h1, h2, val_add hB]
/-- between two told prices the leaves are the same -/
theorem bst_same {B : Int} (hB : 0 < B) {y z : Rat} (h : y ≤ z) : ∀ (t : Tr) (p : List Nat), (∀ x, x ∈ lnk B y t p → z < x.2) → (bst B z t p).2 = (bst B y t p).2
  | .en c, p, _ => rfl
  | .fk c t u, p, hl => by
    have i := ins_next hB h c t u p fun x hx => Rat.le_of_lt (hl x hx)
    rw [bst_fk, bst_fk]
    rw [lnk] at hl
    by_cases k : ins B y c t u
    · rw [if_pos k] at hl
      have k2 : ins B z c t u := i.mpr ⟨k, hl _ (List.mem_cons_self ..)⟩
      rw [if_pos k, if_pos k2]
      show (bst B z u _).2 ++ (bst B z t _).2 = _
      rw [bst_same hB h t (p ++ sY) fun x hx => hl x (List.mem_cons_of_mem _ (List.mem_append.mpr (.inr hx))), bst_same hB h u (p ++ sN) fun x hx => hl x (List.mem_cons_of_mem _ (List.mem_append.mpr (.inl hx)))]
    · rw [if_neg k, if_neg fun n => k (i.mp n).1]
/-- each link lies above the price -/
theorem lnk_above {B : Int} (hB : 0 < B) (y : Rat) : ∀ (t : Tr) (p : List Nat) (x : List Nat × Rat), x ∈ lnk B y t p → y < x.2
  | .en _, p, x, h => by rw [lnk] at h; cases h
  | .fk c t u, p, x, h => by
    rw [lnk] at h
    split at h
    · rename_i k
      rcases List.mem_cons.mp h with h | h
      · rw [h]
        refine (lk_lt y y c t u).mpr ?_
        unfold ins at k
        rwa [bv_val hB, bv_val hB, val_add hB] at k
      · rcases List.mem_append.mp h with h | h
        · exact lnk_above hB y u _ x h
        · exact lnk_above hB y t _ x h
    · cases h
theorem lnk_pre (B : Int) (y : Rat) : ∀ (t : Tr) (p : List Nat) (x : List Nat × Rat), x ∈ lnk B y t p → p <+: x.1
  | .en _, p, x, h => by rw [lnk] at h; cases h
  | .fk c t u, p, x, h => by
    rw [lnk] at h
    split at h
    · rcases List.mem_cons.mp h with h | h
      · rw [h]; exact List.prefix_refl _
      · rcases List.mem_append.mp h with h | h
        · exact (List.prefix_append p sN).trans (lnk_pre B y u _ x h)
        · exact (List.prefix_append p sY).trans (lnk_pre B y t _ x h)
    · cases h
/-- the leaves get no more, and fewer where a link is met -/
theorem bn_fewer {B : Int} (hB : 0 < B) {y z : Rat} (h : y ≤ z) : ∀ (t : Tr) (p : List Nat), (∀ x, x ∈ lnk B y t p → z ≤ x.2) → bn B z t ≤ bn B y t ∧ ((∃ x, x ∈ lnk B y t p ∧ x.2 = z) → bn B z t < bn B y t)
  | .en c, p, _ => ⟨Nat.le_refl _, fun ⟨x, hx, _⟩ => by rw [lnk] at hx; cases hx⟩
  | .fk c t u, p, hl => by
    have i := ins_next hB h c t u p hl
    have t1 := bn_pos B y t
    have u1 := bn_pos B y u
    rw [bn_fk, bn_fk]
    rw [lnk] at hl
    by_cases k : ins B y c t u
    · rw [if_pos k] at hl
      rw [if_pos k]
      obtain ⟨a1, a2⟩ := bn_fewer hB h t (p ++ sY) fun x hx => hl x (List.mem_cons_of_mem _ (List.mem_append.mpr (.inr hx)))
      obtain ⟨b1, b2⟩ := bn_fewer hB h u (p ++ sN) fun x hx => hl x (List.mem_cons_of_mem _ (List.mem_append.mpr (.inl hx)))
      by_cases k2 : ins B z c t u
      · rw [if_pos k2]
        refine ⟨by omega, ?_⟩
        rintro ⟨x, hx, e⟩
        rw [lnk, if_pos k] at hx
        rcases List.mem_cons.mp hx with hx | hx
        · have l := (i.mp k2).2
          rw [hx] at e
          have e : lk B y c t u = z := e
          rw [e] at l
          exact absurd l (Rat.lt_irrefl)
        · rcases List.mem_append.mp hx with hx | hx
          · have := b2 ⟨x, hx, e⟩; omega
          · have := a2 ⟨x, hx, e⟩; omega
      · rw [if_neg k2]
        exact ⟨by omega, fun _ => by omega⟩
    · rw [if_neg k, if_neg fun n => k (i.mp n).1]
      refine ⟨Nat.le_refl _, ?_⟩
      rintro ⟨x, hx, _⟩
      rw [lnk, if_neg k] at hx
      cases hx
end Law
end PF
namespace PF
namespace Law
/-! shared_by -/
theorem sb_loop (n : Nat) : ∀ (a b : Nat) (x y : Option W) (h : Hs), b < n → b < 2 ^ 9000 → ∃ x' y', whileF (tVal (dBin oGt (dV 1) (dC (.int 0)))) L1_shared_by n [some (.int a), some (.int b), x, y] h = .nx [some (.int (Nat.gcd a b)), some (.int 0), x', y'] h := by
  induction n with
  | zero => intro a b x y h hb; omega
  | succ n ih =>
    intro a b x y h hb hl
    rw [whileF]
    by_cases hz : b = 0
    · subst hz
      refine ⟨x, y, ?_⟩
      simp
    · have hp : (0 : Int) < (b : Int) := by omega
      have hd : divOK (a : Int) (b : Int) := ⟨by omega, by
        have : limbs (b : Int) ≤ 300 := limbs_of (by rw [Int.natAbs_natCast]; exact hl)
        simp; intro z; omega⟩
      have e1 : (a : Int).fmod (b : Int) = ((a % b : Nat) : Int) := by
        rw [Int.fmod_eq_emod_of_nonneg _ (by omega)]; omega
      obtain ⟨x', y', e⟩ := ih b (a % b) (some (.int ((a : Int).fdiv (b : Int)))) (some (.int ((a % b : Nat) : Int))) h (by have := Nat.mod_lt a (by omega : 0 < b); omega) (Nat.lt_trans (Nat.mod_lt a (by omega)) hl)
      refine ⟨x', y', ?_⟩
      have eg : Nat.gcd a b = Nat.gcd b (a % b) := by rw [Nat.gcd_comm a b, Nat.gcd_rec b a, Nat.gcd_comm]
      rw [eg, ← e]
      have hz' : ¬ ((b : Int) = 0) := by omega
      simp [L1_shared_by, hp, bDivmod_i hd, e1, hz]
theorem shared_by_e (a b : Int) (h : Hs) (hb : b.natAbs < 2 ^ 9000) : f_shared_by [.int a, .int b] h = .ok (.int (Int.gcd a b)) h := by
  obtain ⟨x', y', e⟩ := sb_loop (b.natAbs + 1) a.natAbs b.natAbs none none h (by omega) hb
  have e2 := sWhile_of e (by intro z; cases z) (FUEL_big hb)
  rw [f_shared_by_e]
  unfold b_shared_by
  simp [abs_nat, e2, Int.gcd]
theorem ratio_e (t b : Int) (h : Hs) (h0 : 0 < b) (hb : b.natAbs < 2 ^ 9000) : f_ratio [.int t, .int b] h = .ok (low t b) h := by
  rw [f_ratio_e]
  unfold b_ratio
  have n0 : ¬ (b = 0) := by omega
  have n1 : ¬ (b < 0) := by omega
  simp [shared_by_e t b h hb, n0, n1, oDiv_i (gcd_div (t := t) (b := b) n0 hb _), low]

/-- in lowest terms, the bottom of either sign -/
def lowG (t b : Int) : W := if b < 0 then low (-t) (-b) else low t b
theorem ratio_g (t b : Int) (h : Hs) (h0 : b ≠ 0) (hb : b.natAbs < 2 ^ 9000) : f_ratio [.int t, .int b] h = .ok (lowG t b) h := by
  by_cases hn : b < 0
  · rw [f_ratio_e]
    unfold b_ratio
    have hd : ∀ i : Int, divOK i (-((Int.gcd t b : Nat) : Int)) := fun i => by
      have := gcd_div (t := t) (b := b) h0 hb i
      have hp : 0 < Int.gcd t b := Int.gcd_pos_of_ne_zero_right t h0
      refine ⟨by omega, ?_⟩
      have h1 : Int.gcd t b ≤ b.natAbs := Nat.le_of_dvd (by omega) (Nat.gcd_dvd_right _ _)
      have : limbs (-((Int.gcd t b : Nat) : Int)) ≤ 300 := limbs_of (by rw [Int.natAbs_neg, Int.natAbs_natCast]; omega)
      simp
      intro z; omega
    have f1 : ∀ x : Int, x.fdiv (-((Int.gcd t b : Nat) : Int)) = (-x).fdiv (Int.gcd t b) := fun x => by
      have := Int.neg_fdiv_neg (-x) (Int.gcd t b)
      rwa [Int.neg_neg] at this
    simp [shared_by_e t b h hb, h0, hn, oDiv_i (hd _), lowG, low, f1, Int.gcd_neg, Int.neg_gcd]
  · rw [ratio_e t b h (by omega) hb, lowG, if_neg hn]
theorem ratio_r (t b : Int) (h : Hs) (h0 : b ≠ 0) (hb : b.natAbs < 2 ^ 9000) : f_ratio [.int t, .int b] h = .ok (rat (Rat.divInt t b)) h := by
  rw [ratio_g t b h h0 hb, lowG]
  split
  · rw [low_rat _ _ (by omega), Rat.neg_divInt_neg]
  · rw [low_rat _ _ (by omega)]
end Law
end PF
namespace PF
namespace Law
theorem plus_r (p q : Rat) (h : Hs) (r : RB 4000 p) (s : RB 4000 q) : f_plus [rat p, rat q] h = .ok (rat (p + q)) h := by
  rw [f_plus_e]
  unfold b_plus
  have m1 := mulOK_b r.1 s.d (by omega)
  have m2 := mulOK_b s.1 r.d (by omega)
  have m3 := mulOK_b r.d s.d (by omega)
  have e := ratio_r (p.num * q.den + q.num * p.den) (p.den * q.den) h (by have := Int.mul_pos (den_pos p) (den_pos q); omega) (by
    rw [← Int.natCast_mul, Int.natAbs_natCast]
    exact Nat.lt_of_lt_of_le (bits_mul r.2 s.2) (Nat.pow_le_pow_right (by omega) (by omega)))
  rw [rat_add] at e
  simp [oMul_i m1, oMul_i m2, oMul_i m3, e]
end Law
end PF
namespace PF
namespace Law
theorem rat_sub (p q : Rat) : Rat.divInt (p.num * q.den - q.num * p.den) (p.den * q.den) = p - q := by
  rw [← Rat.divInt_sub_divInt _ _ (by have := den_pos p; omega) (by have := den_pos q; omega), rat_self, rat_self]
theorem minus_r (p q : Rat) (h : Hs) (r : RB 4000 p) (s : RB 4000 q) : f_minus [rat p, rat q] h = .ok (rat (p - q)) h := by
  rw [f_minus_e]
  unfold b_minus
  have m1 := mulOK_b r.1 s.d (by omega)
  have m2 := mulOK_b s.1 r.d (by omega)
  have m3 := mulOK_b r.d s.d (by omega)
  have e := ratio_r (p.num * q.den - q.num * p.den) (p.den * q.den) h (by have := Int.mul_pos (den_pos p) (den_pos q); omega) (by
    rw [← Int.natCast_mul, Int.natAbs_natCast]
    exact Nat.lt_of_lt_of_le (bits_mul r.2 s.2) (Nat.pow_le_pow_right (by omega) (by omega)))
  rw [rat_sub] at e
  simp [oMul_i m1, oMul_i m2, oMul_i m3, e]
end Law
end PF
namespace PF
namespace Law
theorem rat_div (p q : Rat) : Rat.divInt (p.num * q.den) (p.den * q.num) = p / q := by
  rw [← Rat.divInt_mul_divInt _ _, rat_self, Rat.div_def]
  congr 1
  have := Rat.inv_divInt q.num q.den
  rw [rat_self] at this
  exact this.symm
theorem over_r (p q : Rat) (h : Hs) (hq : q ≠ 0) (r : RB 4000 p) (s : RB 4000 q) : f_over [rat p, rat q] h = .ok (rat (p / q)) h := by
  rw [f_over_e]
  unfold b_over
  have hn : ¬ q.num = 0 := fun z => hq (Rat.num_eq_zero.mp z)
  have m1 := mulOK_b r.1 s.d (by omega)
  have m3 := mulOK_b r.d s.1 (by omega)
  have e := ratio_r (p.num * q.den) (p.den * q.num) h (fun z => (Int.mul_eq_zero.mp z).elim (fun z => by have := den_pos p; omega) hn) (by
    exact Nat.lt_of_lt_of_le (bitsI_mul r.d s.1) (Nat.pow_le_pow_right (by omega) (by omega)))
  rw [rat_div] at e
  simp [oMul_i m1, oMul_i m3, e, hn]
theorem RB.div {m n : Nat} {p q : Rat} (hq : q ≠ 0) (r : RB m p) (s : RB n q) : RB (m + n) (p / q) := by
  rw [← rat_div]
  have hn : ¬ q.num = 0 := fun z => hq (Rat.num_eq_zero.mp z)
  rcases Int.lt_or_gt_of_ne hn with z | z
  · rw [← Rat.neg_divInt_neg]
    refine rb_of ?_ ?_ ?_
    · have := Int.mul_pos (den_pos p) (Int.neg_pos_of_neg z)
      rw [Int.mul_neg] at this
      exact this
    · rw [Int.natAbs_neg]; exact bitsI_mul r.d s.1
    · rw [Int.natAbs_neg]; exact bitsI_mul r.1 s.d
  · exact rb_of (Int.mul_pos (den_pos p) z) (bitsI_mul r.d s.1) (bitsI_mul r.1 s.d)
end Law
end PF
namespace PF
namespace Law
theorem under_r (p q : Rat) (h : Hs) (r : RB 4000 p) (s : RB 4000 q) : f_under [rat p, rat q] h = .ok (.bl (decide (p < q))) h := by
  rw [f_under_e]
  unfold b_under
  have m1 := mulOK_b r.1 s.d (by omega)
  have m2 := mulOK_b s.1 r.d (by omega)
  have e : decide (p.num * (q.den : Int) < q.num * (p.den : Int)) = decide (p < q) := decide_eq_decide.mpr (Rat.lt_iff p q).symm
  simp [oMul_i m1, oMul_i m2, e, gc_same]
end Law
end PF
namespace PF
namespace Law
theorem strcut_gz {d : D} {ρ : Env} {h : Hs} {s : List Nat} (n : Nat) (e : d ρ h = .ok (.str s) h) (hs : s.length ≤ bigL) (p : PF.P) (ep : p ρ h = .ok (some (n : Int)) h) : dGz (dSl d pNo p) ρ h = .ok (.str (s.take n)) h := by
  rw [dGz_e, dSl_e, e, Res.bind_ok, pNo_e, Res.bind_ok, ep, Res.bind_ok, oSl_str hs, cut_hi]
  exact gc_same _
theorem app_gz {a b : D} {ρ : Env} {h : Hs} {A B : List (List Nat)} (ea : a ρ h = .ok (.fl (A.map W.str)) h) (eb : b ρ h = .ok (.fl (B.map W.str)) h) (hl : A.length + B.length ≤ bigL) : dGz (dBin oAdd a b) ρ h = .ok (.fl ((A ++ B).map W.str)) h := by
  rw [dGz_e, dBin_e, ea, Res.bind_ok, eb, Res.bind_ok, oAdd_flfl (by rw [List.length_map, List.length_map]; exact hl), ← List.map_append]
  exact gc_newL (strs_pure _)
theorem one_gz {a : D} {ρ : Env} {h : Hs} {s : List Nat} (ea : a ρ h = .ok (.str s) h) : dGz (dLst (aCons a aNil)) ρ h = .ok (.fl (([s] : List (List Nat)).map W.str)) h :=
  lst_gz (by rw [aCons_e, ea, Res.bind_ok, aNil_e, Res.bind_ok]; rfl) (by simp) rfl
end Law
end PF
namespace PF
namespace Law
def topB (s q : List Nat) : Bool := decide (s.length ≤ q.length) && (q.take s.length == s)
theorem topB_iff {s q : List Nat} : topB s q = true ↔ s <+: q := by
  unfold topB
  rw [Bool.and_eq_true, decide_eq_true_eq, beq_iff_eq, List.prefix_iff_eq_take]
  constructor
  · rintro ⟨_, h⟩; exact h.symm
  · intro h
    refine ⟨?_, h.symm⟩
    have := congrArg List.length h
    rw [List.length_take] at this
    omega
def tops (S : List (List Nat)) (q : List Nat) : List (List Nat) := S.filter fun s => topB s q
theorem bLen_str' {s : List Nat} {h : Hs} (hs : s.length ≤ bigL) : bLen [.str s] h = .ok (.int s.length) h := by simp [bLen, hs]
end Law
end PF
namespace PF
namespace Law
abbrev forksT (t : Tr) := pickK tFork (nodesOf t [])
abbrev endsT (t : Tr) := pickK tEnd (nodesOf t [])
theorem pick_len (k : List Nat) (t : Tr) (p : List Nat) : (pickK k (nodesOf t p)).length ≤ 2 * t.leaves := by
  have := nodes_leaves t
  have := nodesOf_len t p
  have : (pickK k (nodesOf t p)).length ≤ (nodesOf t p).length := by
    unfold pickK
    rw [List.length_map]
    exact List.length_filter_le _ _
  omega
/-- sorted, each once; in the tree; each end beneath just one -/
def isP (t : Tr) (L : List (List Nat)) : Bool := decide (sortS (nub L) = L) && ((L.all fun q => decide (q ∈ forksT t ++ endsT t)) && ((endsT t).all fun q => decide ((tops L q).length = 1)))
theorem strs_eq {A B : List (List Nat)} : (W.fl (A.map W.str) = W.fl (B.map W.str)) ↔ A = B := by
  constructor
  · intro h
    have h := W.fl.inj h
    have inj : ∀ (A B : List (List Nat)), A.map W.str = B.map W.str → A = B := by
      intro A
      induction A with
      | nil => intro B e; cases B with
        | nil => rfl
        | cons b B => cases e
      | cons a A ih => intro B e; cases B with
        | nil => cases e
        | cons b B =>
          have e := List.cons.inj e
          rw [W.str.inj e.1, ih B e.2]
    exact inj A B h
  · rintro rfl; rfl
theorem strs_pl (A : List (List Nat)) : W.pl 1 (.fl (A.map W.str)) = true := by
  show (A.map W.str).all (W.pl 0) = true
  rw [List.all_map]
  exact List.all_eq_true.mpr fun _ _ => rfl
theorem oNe_strs (A B : List (List Nat)) (h : Hs) : oNe (.fl (A.map W.str)) (.fl (B.map W.str)) h = .ok (.bl (!decide (A = B))) h := by
  rw [oNe_pl (n := 1) (by decide) (strs_pl A) (strs_pl B), decide_eq_decide.mpr strs_eq]
theorem oEq_strs (A B : List (List Nat)) (h : Hs) : oEq (.fl (A.map W.str)) (.fl (B.map W.str)) h = .ok (.bl (decide (A = B))) h := by
  rw [oEq_pl (n := 1) (by decide) (strs_pl A) (strs_pl B), decide_eq_decide.mpr strs_eq]
theorem sortset_gz {as : As} {ρ : Env} {h : Hs} {ss : List (List Nat)} (e : as ρ h = .ok [.fl (ss.map W.str)] h) (hl : ss.length < 4000) : dGz (dCall bSortSet as) ρ h = .ok (.fl ((sortS (nub ss)).map W.str)) h := by
  have d : bSortSet [.fl (ss.map W.str)] h = newL ((sortS (nub ss)).map W.str) h := by
    simp [bSortSet, lstOf, strsOf_map, hl]
  rw [dGz_e, dCall_e, e, Res.bind_ok, d]
  exact gc_newL (strs_pure _)
/-- a pruning is one -/
theorem Cut.up : ∀ {t : Tr} {p : List Nat} {L : List (List Nat)}, Cut t p L → L.Pairwise (· < ·) ∧ ∀ q, q ∈ L → p <+: q
  | _, _, _, .here t p => ⟨by simp, fun q h => by rw [List.mem_singleton.mp h]; exact List.prefix_refl _⟩
  | _, p, _, .split a b => by
    obtain ⟨a1, a2⟩ := a.up
    obtain ⟨b1, b2⟩ := b.up
    refine ⟨List.pairwise_append.mpr ⟨b1, a1, fun x hx y hy => lt_ny (b2 x hx) (a2 y hy)⟩, fun q h => ?_⟩
    rcases List.mem_append.mp h with h | h
    · exact (List.prefix_append p sN).trans (b2 q h)
    · exact (List.prefix_append p sY).trans (a2 q h)
theorem nodes_here (t : Tr) (p : List Nat) : (p, kindOf t) ∈ nodesOf t p := by cases t <;> simp [nodesOf, kindOf]
theorem Cut.nodes : ∀ {t : Tr} {p : List Nat} {L : List (List Nat)}, Cut t p L → ∀ q, q ∈ L → ∃ k, (q, k) ∈ nodesOf t p
  | _, _, _, .here t p => fun q h => by rw [List.mem_singleton.mp h]; exact ⟨_, nodes_here t p⟩
  | _, p, _, .split a b => fun q h => by
    rcases List.mem_append.mp h with h | h
    · obtain ⟨k, hk⟩ := b.nodes q h
      exact ⟨k, List.mem_cons_of_mem _ (List.mem_append.mpr (.inl hk))⟩
    · obtain ⟨k, hk⟩ := a.nodes q h
      exact ⟨k, List.mem_cons_of_mem _ (List.mem_append.mpr (.inr hk))⟩
theorem kinds : ∀ (t : Tr) (p : List Nat) (x : Pr), x ∈ nodesOf t p → x.2 = tFork ∨ x.2 = tEnd
  | .en _, p, x, h => by rw [List.mem_singleton.mp h]; exact .inr rfl
  | .fk c t u, p, x, h => by
    rcases List.mem_cons.mp h with rfl | h
    · exact .inl rfl
    · rcases List.mem_append.mp h with h | h
      · exact kinds u _ x h
      · exact kinds t _ x h
theorem mem_pick {k : List Nat} {ps : List Pr} {q : List Nat} : q ∈ pickK k ps ↔ (q, k) ∈ ps := by
  unfold pickK
  rw [List.mem_map]
  constructor
  · rintro ⟨x, hx, rfl⟩
    obtain ⟨h1, h2⟩ := List.mem_filter.mp hx
    rw [← of_decide_eq_true h2]
    exact h1
  · intro h
    exact ⟨(q, k), List.mem_filter.mpr ⟨h, by simp⟩, rfl⟩
theorem mem_known (t : Tr) (q : List Nat) : q ∈ forksT t ++ endsT t ↔ q ∈ (nodesOf t []).map Prod.fst := by
  rw [List.mem_append, mem_pick, mem_pick, List.mem_map]
  constructor
  · rintro (h | h)
    · exact ⟨_, h, rfl⟩
    · exact ⟨_, h, rfl⟩
  · rintro ⟨x, hx, rfl⟩
    rcases kinds t [] x hx with k | k
    · exact .inl (by rw [← k]; exact hx)
    · exact .inr (by rw [← k]; exact hx)
theorem one_top {L : List (List Nat)} (nd : L.Nodup) {s q : List Nat} (hs : s ∈ L) (hq : s <+: q) (un : ∀ r, r ∈ L → r <+: q → r = s) : (tops L q).length = 1 := by
  have e : tops L q = [s] := by
    unfold tops
    have nd2 : (L.filter fun r => topB r q).Nodup := nd.filter _
    have m : ∀ r, r ∈ L.filter (fun r => topB r q) ↔ r = s := fun r => by
      rw [List.mem_filter]
      constructor
      · rintro ⟨h1, h2⟩
        exact un r h1 (topB_iff.mp h2)
      · rintro rfl
        exact ⟨hs, topB_iff.mpr hq⟩
    generalize L.filter (fun r => topB r q) = M at *
    cases M with
    | nil => exact absurd ((m s).mpr rfl) (by simp)
    | cons a M =>
      have ha := (m a).mp (List.mem_cons_self ..)
      subst ha
      cases M with
      | nil => rfl
      | cons b M =>
        have hb := (m b).mp (by simp)
        rw [hb] at nd2
        simp at nd2
  rw [e]; rfl
theorem Cut.apart {t : Tr} {p : List Nat} {L : List (List Nat)} (c : Cut t p L) {q r : List Nat} (hq : q ∈ L) (hr : r ∈ L) (h : q <+: r) : q = r := by
  obtain ⟨F, f⟩ := c.toF
  exact f.facts.2.2.2.1 q r hq hr h
theorem Cut.isP {t : Tr} {L : List (List Nat)} (c : Cut t [] L) : isP t L = true := by
  obtain ⟨u1, u2⟩ := c.up
  unfold Law.isP
  rw [decide_eq_true (up_iff.mpr u1), Bool.true_and, Bool.and_eq_true]
  refine ⟨List.all_eq_true.mpr fun q hq => decide_eq_true ((mem_known t q).mpr ?_), List.all_eq_true.mpr fun q hq => decide_eq_true ?_⟩
  · obtain ⟨k, hk⟩ := c.nodes q hq
    exact List.mem_map.mpr ⟨_, hk, rfl⟩
  · obtain ⟨s, hs, k⟩ := ends_under c q (mem_pick.mp hq)
    refine one_top (up_nodup u1) hs k fun r hr kr => ?_
    rcases List.prefix_or_prefix_of_prefix kr k with h | h
    · exact c.apart hr hs h
    · exact (c.apart hs hr h).symm
theorem ends_cut : ∀ (t : Tr) (p : List Nat), Cut t p (pickK tEnd (nodesOf t p))
  | .en c, p => .here _ _
  | .fk c t u, p => by
    have e : pickK tEnd (nodesOf (.fk c t u) p) = pickK tEnd (nodesOf u (p ++ sN)) ++ pickK tEnd (nodesOf t (p ++ sY)) := by
      unfold pickK
      rw [nodesOf, List.filter_cons_of_neg (by simp), List.filter_append, List.map_append]
    rw [e]
    exact .split (ends_cut t _) (ends_cut u _)
end Law
end PF
namespace PF
namespace Law
theorem pre_ne {p q : List Nat} (h1 : p ++ sY <+: q) (h2 : p ++ sN <+: q) : False := by
  have e1 := List.prefix_iff_eq_take.mp h1
  have e2 := List.prefix_iff_eq_take.mp h2
  have ln : (p ++ sY).length = (p ++ sN).length := by simp
  rw [ln, ← e2] at e1
  have := List.append_cancel_left e1
  exact absurd this (by decide)
end Law
end PF
namespace PF
namespace Law
theorem self_apart' {p q : List Nat} {x : Nat} (h : (p ++ [x]) <+: q) (e : q <+: p) : False := by
  have a := h.length_le
  have b := e.length_le
  rw [List.length_append, List.length_singleton] at a
  omega
/-- at the least link: kept leaves, and the outermost forks met -/
theorem mem_cut {B : Int} (hB : 0 < B) {y z : Rat} (h : y ≤ z) : ∀ (t : Tr) (p : List Nat), (∀ x, x ∈ lnk B y t p → z ≤ x.2) → ∀ q, q ∈ (bst B z t p).2 ↔
    (q ∈ (bst B y t p).2 ∧ ∀ x, x ∈ lnk B y t p → x.2 = z → ¬ x.1 <+: q) ∨ (∃ x, x ∈ lnk B y t p ∧ x.2 = z ∧ x.1 = q ∧ ∀ x', x' ∈ lnk B y t p → x'.2 = z → x'.1 <+: q → x'.1 = q)
  | .en c, p, _, q => by
    have e : lnk B y (.en c) p = [] := rfl
    rw [e]
    constructor
    · intro hq
      exact .inl ⟨hq, fun x hx => by cases hx⟩
    · rintro (⟨hq, _⟩ | ⟨x, hx, _⟩)
      · exact hq
      · cases hx
  | .fk c t u, p, hl, q => by
    have i := ins_next hB h c t u p hl
    by_cases k : ins B y c t u
    · have el : lnk B y (.fk c t u) p = (p, lk B y c t u) :: (lnk B y u (p ++ sN) ++ lnk B y t (p ++ sY)) := by rw [lnk, if_pos k]
      rw [el] at hl ⊢
      have hu : ∀ x, x ∈ lnk B y u (p ++ sN) → z ≤ x.2 := fun x hx => hl x (List.mem_cons_of_mem _ (List.mem_append.mpr (.inl hx)))
      have ht : ∀ x, x ∈ lnk B y t (p ++ sY) → z ≤ x.2 := fun x hx => hl x (List.mem_cons_of_mem _ (List.mem_append.mpr (.inr hx)))
      have pu := lnk_pre B y u (p ++ sN)
      have pt := lnk_pre B y t (p ++ sY)
      have bu : ∀ (w : Rat) r, r ∈ (bst B w u (p ++ sN)).2 → (p ++ sN) <+: r := fun w r hr => by
        obtain ⟨F, f⟩ := (bst_S (B := B) w u (p ++ sN)).cut.toF
        exact f.pre.1 r hr
      have bt : ∀ (w : Rat) r, r ∈ (bst B w t (p ++ sY)).2 → (p ++ sY) <+: r := fun w r hr => by
        obtain ⟨F, f⟩ := (bst_S (B := B) w t (p ++ sY)).cut.toF
        exact f.pre.1 r hr
      have ey : (bst B y (.fk c t u) p).2 = (bst B y u (p ++ sN)).2 ++ (bst B y t (p ++ sY)).2 := by rw [bst_fk, if_pos k]
      rw [ey]
      by_cases k2 : ins B z c t u
      · have ez : (bst B z (.fk c t u) p).2 = (bst B z u (p ++ sN)).2 ++ (bst B z t (p ++ sY)).2 := by rw [bst_fk, if_pos k2]
        have nk : ¬ lk B y c t u = z := fun e => by
          have l := (i.mp k2).2
          rw [e] at l
          exact absurd l Rat.lt_irrefl
        rw [ez, List.mem_append, mem_cut hB h u (p ++ sN) hu q, mem_cut hB h t (p ++ sY) ht q]
        constructor
        · rintro ((⟨h1, h2⟩ | ⟨x, h1, h2, h3, h4⟩) | (⟨h1, h2⟩ | ⟨x, h1, h2, h3, h4⟩))
          · refine .inl ⟨List.mem_append.mpr (.inl h1), fun x hx ex => ?_⟩
            rcases List.mem_cons.mp hx with hx | hx
            · rw [hx] at ex; exact absurd ex nk
            · rcases List.mem_append.mp hx with hx | hx
              · exact h2 x hx ex
              · exact fun w => pre_ne ((pt x hx).trans w) (bu y q h1)
          · refine .inr ⟨x, List.mem_cons_of_mem _ (List.mem_append.mpr (.inl h1)), h2, h3, fun x' hx ex hp => ?_⟩
            rcases List.mem_cons.mp hx with hx | hx
            · rw [hx] at ex; exact absurd ex nk
            · rcases List.mem_append.mp hx with hx | hx
              · exact h4 x' hx ex hp
              · exact (pre_ne ((pt x' hx).trans hp) (by rw [← h3]; exact pu x h1)).elim
          · refine .inl ⟨List.mem_append.mpr (.inr h1), fun x hx ex => ?_⟩
            rcases List.mem_cons.mp hx with hx | hx
            · rw [hx] at ex; exact absurd ex nk
            · rcases List.mem_append.mp hx with hx | hx
              · exact fun w => pre_ne (bt y q h1) ((pu x hx).trans w)
              · exact h2 x hx ex
          · refine .inr ⟨x, List.mem_cons_of_mem _ (List.mem_append.mpr (.inr h1)), h2, h3, fun x' hx ex hp => ?_⟩
            rcases List.mem_cons.mp hx with hx | hx
            · rw [hx] at ex; exact absurd ex nk
            · rcases List.mem_append.mp hx with hx | hx
              · exact (pre_ne (by rw [← h3]; exact pt x h1) ((pu x' hx).trans hp)).elim
              · exact h4 x' hx ex hp
        · rintro (⟨h1, h2⟩ | ⟨x, h1, h2, h3, h4⟩)
          · rcases List.mem_append.mp h1 with h1 | h1
            · exact .inl (.inl ⟨h1, fun x hx => h2 x (List.mem_cons_of_mem _ (List.mem_append.mpr (.inl hx)))⟩)
            · exact .inr (.inl ⟨h1, fun x hx => h2 x (List.mem_cons_of_mem _ (List.mem_append.mpr (.inr hx)))⟩)
          · rcases List.mem_cons.mp h1 with h1 | h1
            · rw [h1] at h2; exact absurd h2 nk
            · rcases List.mem_append.mp h1 with h1 | h1
              · exact .inl (.inr ⟨x, h1, h2, h3, fun x' hx => h4 x' (List.mem_cons_of_mem _ (List.mem_append.mpr (.inl hx)))⟩)
              · exact .inr (.inr ⟨x, h1, h2, h3, fun x' hx => h4 x' (List.mem_cons_of_mem _ (List.mem_append.mpr (.inr hx)))⟩)
      · have ez : (bst B z (.fk c t u) p).2 = [p] := by rw [bst_fk, if_neg k2]
        have ek : lk B y c t u = z := by
          have a : ¬ z < lk B y c t u := fun w => k2 (i.mpr ⟨k, w⟩)
          exact Rat.le_antisymm (Rat.not_lt.mp a) (hl _ (List.mem_cons_self ..))
        have under : ∀ x, x ∈ lnk B y u (p ++ sN) ++ lnk B y t (p ++ sY) → ¬ x.1 <+: p := fun x hx w => by
          rcases List.mem_append.mp hx with hx | hx
          · exact self_apart' (pu x hx) w
          · exact self_apart' (pt x hx) w
        rw [ez, List.mem_singleton]
        constructor
        · intro e
          rw [e]
          refine .inr ⟨_, List.mem_cons_self .., ek, rfl, fun x' hx ex hp => ?_⟩
          rcases List.mem_cons.mp hx with hx | hx
          · rw [hx]
          · exact absurd hp (under x' hx)
        · rintro (⟨h1, h2⟩ | ⟨x, h1, h2, h3, h4⟩)
          · exfalso
            refine h2 _ (List.mem_cons_self ..) ek ?_
            rcases List.mem_append.mp h1 with h1 | h1
            · exact (List.prefix_append p sN).trans (bu y q h1)
            · exact (List.prefix_append p sY).trans (bt y q h1)
          · have e := h4 _ (List.mem_cons_self ..) ek (by
              rw [← h3]
              rcases List.mem_cons.mp h1 with h1 | h1
              · rw [h1]; exact List.prefix_refl _
              · rcases List.mem_append.mp h1 with h1 | h1
                · exact (List.prefix_append p sN).trans (pu x h1)
                · exact (List.prefix_append p sY).trans (pt x h1))
            exact e.symm
    · have el : lnk B y (.fk c t u) p = [] := by rw [lnk, if_neg k]
      have ey : (bst B y (.fk c t u) p).2 = [p] := by rw [bst_fk, if_neg k]
      have ez : (bst B z (.fk c t u) p).2 = [p] := by rw [bst_fk, if_neg fun n => k (i.mp n).1]
      rw [el, ey, ez]
      constructor
      · intro hq
        exact .inl ⟨hq, fun x hx => by cases hx⟩
      · rintro (⟨hq, _⟩ | ⟨x, hx, _⟩)
        · exact hq
        · cases hx
theorem lnk_nodup (B : Int) (y : Rat) : ∀ (t : Tr) (p : List Nat), ((lnk B y t p).map Prod.fst).Nodup
  | .en _, p => by rw [lnk]; simp
  | .fk c t u, p => by
    rw [lnk]
    split
    · have pu := lnk_pre B y u (p ++ sN)
      have pt := lnk_pre B y t (p ++ sY)
      rw [List.map_cons, List.map_append]
      refine List.nodup_cons.mpr ⟨fun m => ?_, List.nodup_append.mpr ⟨lnk_nodup B y u _, lnk_nodup B y t _, fun a ha b hb e => ?_⟩⟩
      · rcases List.mem_append.mp m with m | m
        · obtain ⟨x, hx, e⟩ := List.mem_map.mp m
          exact self_apart' (pu x hx) (by rw [e]; exact List.prefix_refl _)
        · obtain ⟨x, hx, e⟩ := List.mem_map.mp m
          exact self_apart' (pt x hx) (by rw [e]; exact List.prefix_refl _)
      · obtain ⟨x, hx, ex⟩ := List.mem_map.mp ha
        obtain ⟨x', hx', ex'⟩ := List.mem_map.mp hb
        have h1 := pu x hx
        have h2 := pt x' hx'
        rw [ex, e] at h1
        rw [ex'] at h2
        exact pre_ne h2 h1
    · simp
theorem tops_none {S : List (List Nat)} {q : List Nat} : (tops S q).length = 0 ↔ ∀ o, o ∈ S → ¬ o <+: q := by
  unfold tops
  rw [List.length_eq_zero_iff, List.filter_eq_nil_iff]
  exact ⟨fun h o ho z => h o ho (topB_iff.mpr z), fun h o ho z => h o ho (topB_iff.mp z)⟩
theorem tops_one {S : List (List Nat)} {o : List Nat} (nd : S.Nodup) (ho : o ∈ S) : (tops S o).length = 1 ↔ ∀ r, r ∈ S → r <+: o → r = o := by
  have hm : o ∈ tops S o := List.mem_filter.mpr ⟨ho, topB_iff.mpr (List.prefix_refl _)⟩
  constructor
  · intro h r hr hp
    obtain ⟨x, hx⟩ := List.length_eq_one_iff.mp h
    have h1 : r ∈ tops S o := List.mem_filter.mpr ⟨hr, topB_iff.mpr hp⟩
    rw [hx] at hm h1
    rw [List.mem_singleton.mp hm, List.mem_singleton.mp h1]
  · intro h
    have n2 : (tops S o).Nodup := nd.sublist List.filter_sublist
    have : (tops S o).Perm [o] := (List.perm_ext_iff_of_nodup n2 (by simp)).mpr fun r => by
      rw [List.mem_singleton]
      exact ⟨fun z => h r (List.mem_filter.mp z).1 (topB_iff.mp (List.mem_filter.mp z).2), fun z => z ▸ hm⟩
    rw [this.length_eq]; rfl
def keptP (L S : List (List Nat)) : List (List Nat) := L.filter fun q => decide ((tops S q).length = 0)
def outerP (S : List (List Nat)) : List (List Nat) := S.filter fun o => decide ((tops S o).length = 1)
def cutP (L S : List (List Nat)) : List (List Nat) := sortS (keptP L S ++ outerP S)
/-- the forks met at a price -/
def metP (B : Int) (y z : Rat) (t : Tr) : List (List Nat) := ((lnk B y t []).filter fun x => decide (x.2 = z)).map Prod.fst
theorem mem_met {B : Int} {y z : Rat} {t : Tr} {o : List Nat} : o ∈ metP B y z t ↔ ∃ x, x ∈ lnk B y t [] ∧ x.2 = z ∧ x.1 = o := by
  unfold metP
  rw [List.mem_map]
  constructor
  · rintro ⟨x, hx, e⟩
    obtain ⟨h1, h2⟩ := List.mem_filter.mp hx
    exact ⟨x, h1, of_decide_eq_true h2, e⟩
  · rintro ⟨x, h1, h2, e⟩
    exact ⟨x, List.mem_filter.mpr ⟨h1, decide_eq_true h2⟩, e⟩
theorem cut_next {B : Int} (hB : 0 < B) {y z : Rat} (h : y ≤ z) (t : Tr) (hl : ∀ x, x ∈ lnk B y t [] → z ≤ x.2) : cutP (bst B y t []).2 (metP B y z t) = (bst B z t []).2 := by
  have up := (bst_S (B := B) z t []).cut.up.1
  have upy := (bst_S (B := B) y t []).cut.up.1
  have nd : (metP B y z t).Nodup := (lnk_nodup B y t []).sublist (List.filter_sublist.map Prod.fst)
  unfold cutP
  refine (sortS_of ?_ (up.imp lt_le)).symm
  have n1 : (keptP (bst B y t []).2 (metP B y z t) ++ outerP (metP B y z t)).Nodup := List.nodup_append.mpr ⟨(up_nodup upy).sublist List.filter_sublist, nd.sublist List.filter_sublist, fun a ha b hb e => by
    have h1 := tops_none.mp (of_decide_eq_true (List.mem_filter.mp ha).2)
    have h2 := (List.mem_filter.mp hb).1
    exact h1 b h2 (by rw [e]; exact List.prefix_refl _)⟩
  refine (List.perm_ext_iff_of_nodup (up_nodup up) n1).mpr fun q => ?_
  rw [mem_cut hB h t [] hl q, List.mem_append]
  unfold keptP outerP
  rw [List.mem_filter, List.mem_filter]
  constructor
  · rintro (⟨h1, h2⟩ | ⟨x, h1, h2, h3, h4⟩)
    · refine .inl ⟨h1, decide_eq_true (tops_none.mpr fun o ho => ?_)⟩
      obtain ⟨x, x1, x2, x3⟩ := mem_met.mp ho
      rw [← x3]
      exact h2 x x1 x2
    · have m : q ∈ metP B y z t := mem_met.mpr ⟨x, h1, h2, h3⟩
      refine .inr ⟨m, decide_eq_true ((tops_one nd m).mpr fun r hr hp => ?_)⟩
      obtain ⟨x', x1, x2, x3⟩ := mem_met.mp hr
      rw [← x3] at hp ⊢
      exact h4 x' x1 x2 hp
  · rintro (⟨h1, h2⟩ | ⟨h1, h2⟩)
    · have h2 := tops_none.mp (of_decide_eq_true h2)
      exact .inl ⟨h1, fun x hx ex => h2 x.1 (mem_met.mpr ⟨x, hx, ex, rfl⟩)⟩
    · have h2 := (tops_one nd h1).mp (of_decide_eq_true h2)
      obtain ⟨x, x1, x2, x3⟩ := mem_met.mp h1
      exact .inr ⟨x, x1, x2, x3, fun x' hx ex hp => h2 x'.1 (mem_met.mpr ⟨x', hx, ex, rfl⟩) hp⟩
end Law
end PF
namespace PF
namespace Law
def lkW (x : List Nat × Rat) : W := .tup [.str x.1, rat x.2]
theorem lkW_pure (x : List Nat × Rat) : (lkW x).pure = true := rfl
theorem lks_pure (l : List (List Nat × Rat)) : (W.fl (l.map lkW)).pure = true := by
  rw [W.pure]; exact pures_map fun x _ => lkW_pure x
theorem lnk_len (B : Int) (y : Rat) : ∀ (t : Tr) (p : List Nat), (lnk B y t p).length + 1 = bn B y t
  | .en _, p => rfl
  | .fk c t u, p => by
    rw [lnk, bn_fk]
    split
    · rw [List.length_cons, List.length_append]
      have := lnk_len B y t (p ++ sY)
      have := lnk_len B y u (p ++ sN)
      omega
    · rfl
theorem bn_le (B : Int) (y : Rat) (t : Tr) : bn B y t ≤ t.leaves := ((bst_S (B := B) y t []).cut.len).2
theorem bsm_sz {B : Int} (y : Rat) {t : Tr} (hl : t.leaves ≤ 100) (tc : t.costs (2 ^ 105)) : (bsm B y t).natAbs < 2 ^ 112 := by
  have sz := (bst_S (B := B) y t []).sz tc
  have ln := bn_le B y t
  unfold bn at ln
  generalize (bst B y t []).2.length = n at *
  have : (n : Int) * 2 ^ 105 ≤ 100 * 2 ^ 105 := Int.mul_le_mul_of_nonneg_right (by omega) (by omega)
  omega
theorem lk_rb {B : Int} (hB : 0 < B ∧ B < 2 ^ 100) (y : Rat) {c : Int} {t u : Tr} (hl : t.leaves + u.leaves ≤ 100) (tc : (Tr.fk c t u).costs (2 ^ 105)) : RB 400 (lk B y c t u) := by
  have sz : -(2 ^ 105) ≤ c ∧ c ≤ 2 ^ 105 := tc.1
  have s1 := bsm_sz (B := B) y (by omega) tc.2.1
  have s2 := bsm_sz (B := B) y (by omega) tc.2.2
  have n1 := bn_pos B y t
  have n2 := bn_pos B y u
  have m1 := bn_le B y t
  have m2 := bn_le B y u
  have r1 : RB 113 (Rat.divInt c B) := rb_of hB.1 (by omega) (by omega)
  have r2 : RB 113 (Rat.divInt (bsm B y t + bsm B y u) B) := rb_of hB.1 (by omega) (by omega)
  have r3 : RB 20 ((((bn B y t + bn B y u : Nat) : Int) - 1 : Int) : Rat) := ⟨by show ((((bn B y t + bn B y u : Nat) : Int) - 1 : Int)).natAbs < 2 ^ 20; omega, by show 1 < 2 ^ 20; omega⟩
  have nz : ((((bn B y t + bn B y u : Nat) : Int) - 1 : Int) : Rat) ≠ 0 := fun e => by
    have e2 : ((((bn B y t + bn B y u : Nat) : Int) - 1 : Int) : Rat) = ((0 : Int) : Rat) := e
    have := Rat.intCast_inj.mp e2
    omega
  exact ((r1.sub r2).div nz r3).le (by omega)
theorem lnk_rb {B : Int} (hB : 0 < B ∧ B < 2 ^ 100) (y : Rat) : ∀ (t : Tr) (p : List Nat), t.leaves ≤ 100 → t.costs (2 ^ 105) → ∀ x, x ∈ lnk B y t p → RB 400 x.2
  | .en _, p, _, _, x, h => by rw [lnk] at h; cases h
  | .fk c t u, p, hl, tc, x, h => by
    have hv : (Tr.fk c t u).leaves = t.leaves + u.leaves := rfl
    rw [hv] at hl
    rw [lnk] at h
    split at h
    · rcases List.mem_cons.mp h with h | h
      · rw [h]; exact lk_rb hB y hl tc
      · rcases List.mem_append.mp h with h | h
        · exact lnk_rb hB y u _ (by omega) tc.2.2 x h
        · exact lnk_rb hB y t _ (by omega) tc.2.1 x h
    · cases h
theorem linked_e (B : Int) (hB : 0 < B ∧ B < 2 ^ 100) (y : Rat) (L : List (List Nat)) : ∀ (t : Tr) (n : Nat) (p : List Nat) (h : Hs), t.high < n → p.length + t.high < 1000 → t.leaves ≤ 100 → t.costs (2 ^ 105) → (∀ q, p <+: q → (q ∈ L ↔ q ∈ (bst B y t p).2)) →
    f_linked_under n [trF (fun c => rat (Rat.divInt c B)) t, .fl (L.map W.str), .str p] h = .ok (.tup [rat (Rat.divInt (bsm B y t) B), .int (bn B y t), .fl ((lnk B y t p).map lkW)]) h := by
  -- where the place is a leaf
  have leaf : ∀ (t : Tr) (n : Nat) (p : List Nat) (h : Hs), p ∈ L → f_linked_under (n + 1) [trF (fun c => rat (Rat.divInt c B)) t, .fl (L.map W.str), .str p] h = .ok (.tup [rat (Rat.divInt (tcost t) B), .int 1, .fl []]) h := fun t n p h m => by
    rw [f_linked_under_e]
    unfold b_linked_under
    have t1 := trg1 (fun c => rat (Rat.divInt c B)) t
    have oi := oIn_strs (h := h) p L
    rw [decide_eq_true m] at oi
    generalize trF (fun c => rat (Rat.divInt c B)) t = TW at *
    generalize L.map W.str = LW at *
    have lz : dGz (dLst aNil) [some TW, some (.fl LW), some (.str p), none, none, none, none, none, none, none, none, none] h = .ok (.fl []) h := lst_gz rfl (by simp) rfl
    have e : sIf (tVal (dBin oIn (dV 2) (dV 1))) (sRet (dTup (aCons (dBin oIx (dV 0) (dC (.int 1))) (aCons (dC (.int 1)) (aCons (dGz (dLst (aNil))) (aNil)))))) (sNx) [some TW, some (.fl LW), some (.str p), none, none, none, none, none, none, none, none, none] h = .ret (.tup [rat (Rat.divInt (tcost t) B), .int 1, .fl []]) h := by
      simp only [sIf_e, tVal_e, dBin_e, dV_2, dV_1, Res.bind_ok, oi, asB_b, onR_ok, if_true, sRet_e, dTup_e, aCons_e, aNil_e, dV_0, dC_e, t1, lz, List.length_cons, List.length_nil, Nat.zero_add, Nat.reduceAdd, big_lit3]
    rw [sSeq_t, e]
    exact gc_same _
  intro t
  induction t with
  | en c =>
    intro n p h hn hp hl tc hL
    obtain ⟨m, rfl⟩ : ∃ m, n = m + 1 := ⟨n - 1, by omega⟩
    have m : p ∈ L := (hL p (List.prefix_refl _)).mpr (List.mem_singleton.mpr rfl)
    exact leaf (.en c) _ p h m
  | fk c t u iht ihu =>
    intro n p h hn hp hl tc hL
    obtain ⟨n, rfl⟩ : ∃ m, n = m + 1 := ⟨n - 1, by omega⟩
    by_cases k : ins B y c t u
    · have ey : (bst B y (.fk c t u) p).2 = (bst B y u (p ++ sN)).2 ++ (bst B y t (p ++ sY)).2 := by rw [bst_fk, if_pos k]
      rw [ey] at hL
      have bu : ∀ r, r ∈ (bst B y u (p ++ sN)).2 → (p ++ sN) <+: r := fun r hr => by
        obtain ⟨F, f⟩ := (bst_S (B := B) y u (p ++ sN)).cut.toF
        exact f.pre.1 r hr
      have bt : ∀ r, r ∈ (bst B y t (p ++ sY)).2 → (p ++ sY) <+: r := fun r hr => by
        obtain ⟨F, f⟩ := (bst_S (B := B) y t (p ++ sY)).cut.toF
        exact f.pre.1 r hr
      have nm : ¬ p ∈ L := fun m => by
        rcases List.mem_append.mp ((hL p (List.prefix_refl _)).mp m) with m | m
        · exact self_apart' (bu p m) (List.prefix_refl _)
        · exact self_apart' (bt p m) (List.prefix_refl _)
      have hh : (Tr.fk c t u).high = 1 + max t.high u.high := rfl
      have hv : (Tr.fk c t u).leaves = t.leaves + u.leaves := rfl
      rw [hh] at hn hp
      rw [hv] at hl
      have lt := t.leaves_pos
      have lu := u.leaves_pos
      have r1 := iht n (p ++ sY) h (by omega) (by simp; omega) (by omega) tc.2.1 fun q hq => by
        rw [hL q ((List.prefix_append p sY).trans hq), List.mem_append]
        exact ⟨fun m => m.elim (fun m => (pre_ne hq (bu q m)).elim) id, .inr⟩
      have r2 := ihu n (p ++ sN) h (by omega) (by simp; omega) (by omega) tc.2.2 fun q hq => by
        rw [hL q ((List.prefix_append p sN).trans hq), List.mem_append]
        exact ⟨fun m => m.elim id (fun m => (pre_ne (bt q m) hq).elim), .inl⟩
      have sz : -(2 ^ 105) ≤ c ∧ c ≤ 2 ^ 105 := tc.1
      have s1 := bsm_sz (B := B) y (by omega) tc.2.1
      have s2 := bsm_sz (B := B) y (by omega) tc.2.2
      have n1 := bn_pos B y t
      have n2 := bn_pos B y u
      have m1 := bn_le B y t
      have m2 := bn_le B y u
      have q1 := lnk_len B y t (p ++ sY)
      have q2 := lnk_len B y u (p ++ sN)
      have ps := plus_r (Rat.divInt (bsm B y t) B) (Rat.divInt (bsm B y u) B) h ((rb_of (n := 120) hB.1 (by omega) (by omega)).le (by omega)) ((rb_of (n := 120) hB.1 (by omega) (by omega)).le (by omega))
      rw [div_sum hB.1] at ps
      have mi := minus_r (Rat.divInt c B) (Rat.divInt (bsm B y t + bsm B y u) B) h ((rb_of (n := 120) hB.1 (by omega) (by omega)).le (by omega)) ((rb_of (n := 120) hB.1 (by omega) (by omega)).le (by omega))
      have r3 : RB 20 ((((bn B y t + bn B y u : Nat) : Int) - 1 : Int) : Rat) := ⟨by show ((((bn B y t + bn B y u : Nat) : Int) - 1 : Int)).natAbs < 2 ^ 20; omega, by show 1 < 2 ^ 20; omega⟩
      have nz : ((((bn B y t + bn B y u : Nat) : Int) - 1 : Int) : Rat) ≠ 0 := fun e => by
        have e2 : ((((bn B y t + bn B y u : Nat) : Int) - 1 : Int) : Rat) = ((0 : Int) : Rat) := e
        have := Rat.intCast_inj.mp e2
        omega
      have rd : RB 300 (Rat.divInt c B - Rat.divInt (bsm B y t + bsm B y u) B) := ((rb_of (n := 113) hB.1 (by omega) (by omega)).sub (rb_of (n := 113) hB.1 (by omega) (by omega))).le (by omega)
      have ov := over_r (Rat.divInt c B - Rat.divInt (bsm B y t + bsm B y u) B) ((((bn B y t + bn B y u : Nat) : Int) - 1 : Int) : Rat) h nz (rd.le (by omega)) (r3.le (by omega))
      have elk : (Rat.divInt c B - Rat.divInt (bsm B y t + bsm B y u) B) / ((((bn B y t + bn B y u : Nat) : Int) - 1 : Int) : Rat) = lk B y c t u := rfl
      rw [elk] at ov
      have ri : rat ((((bn B y t + bn B y u : Nat) : Int) - 1 : Int) : Rat) = .tup [.int (((bn B y t + bn B y u : Nat) : Int) - 1), .int 1] := rfl
      rw [ri, Int.natCast_add] at ov
      rw [bsm_fk, if_pos k, bn_fk, if_pos k, lnk, if_pos k, Int.natCast_add]
      rw [f_linked_under_e]
      unfold b_linked_under
      have t1 := trg1 (fun c => rat (Rat.divInt c B)) (.fk c t u)
      have t1 : ∀ h, oIx (trF (fun c => rat (Rat.divInt c B)) (.fk c t u)) (.int 1) h = .ok (rat (Rat.divInt c B)) h := t1
      have t2 : ∀ h, oIx (trF (fun c => rat (Rat.divInt c B)) (.fk c t u)) (.int 2) h = .ok (trF (fun c => rat (Rat.divInt c B)) t) h := fun h => oIx_tup (k := 2) rfl
      have t3 : ∀ h, oIx (trF (fun c => rat (Rat.divInt c B)) (.fk c t u)) (.int 3) h = .ok (trF (fun c => rat (Rat.divInt c B)) u) h := fun h => oIx_tup (k := 3) rfl
      have oi := oIn_strs (h := h) p L
      rw [decide_eq_false nm] at oi
      have pY : ∀ h, oAdd (.str p) (.str [121]) h = .ok (.str (p ++ sY)) h := fun h => oAdd_str (by unfold bigL; simp; omega)
      have pN : ∀ h, oAdd (.str p) (.str [110]) h = .ok (.str (p ++ sN)) h := fun h => oAdd_str (by unfold bigL; simp; omega)
      generalize trF (fun c => rat (Rat.divInt c B)) (.fk c t u) = TW at *
      generalize trF (fun c => rat (Rat.divInt c B)) t = TT at *
      generalize trF (fun c => rat (Rat.divInt c B)) u = TU at *
      generalize L.map W.str = LW at *
      obtain ⟨A, hA⟩ : ∃ A, A = lnk B y t (p ++ sY) := ⟨_, rfl⟩
      obtain ⟨C, hC⟩ : ∃ C, C = lnk B y u (p ++ sN) := ⟨_, rfl⟩
      rw [← hA] at r1 q1 ⊢
      rw [← hC] at r2 q2 ⊢
      generalize lk B y c t u = own at *
      obtain ⟨nt, hnt⟩ : ∃ nt : Int, nt = bn B y t := ⟨_, rfl⟩
      obtain ⟨nu, hnu⟩ : ∃ nu : Int, nu = bn B y u := ⟨_, rfl⟩
      rw [← hnt] at r1 ov ⊢
      rw [← hnu] at r2 ov ⊢
      generalize Rat.divInt (bsm B y t) B = dt at *
      generalize Rat.divInt (bsm B y u) B = du at *
      generalize Rat.divInt (bsm B y t + bsm B y u) B = ds at *
      rw [seq_nx (ρ1 := [some TW, some (.fl LW), some (.str p), none, none, none, none, none, none, none, none, none]) (h1 := h) (by
        simp only [sIf_e, tVal_e, dBin_e, dV_2, dV_1, Res.bind_ok, oi, asB_b, onR_ok, Bool.false_eq_true, if_false, sNx_e])]
      rw [seq_nx (ρ1 := [some TW, some (.fl LW), some (.str p), some (rat dt), some (.int nt), some (.fl (A.map lkW)), none, none, none, none, none, none]) (h1 := h) (by
        simp only [sAsg_e, dCall_e, aCons_e, aNil_e, dBin_e, dV_0, dV_1, dV_2, dC_e, Res.bind_ok, t2, pY, r1]; rfl)]
      rw [seq_nx (ρ1 := [some TW, some (.fl LW), some (.str p), some (rat dt), some (.int nt), some (.fl (A.map lkW)), some (rat du), some (.int nu), some (.fl (C.map lkW)), none, none, none]) (h1 := h) (by
        simp only [sAsg_e, dCall_e, aCons_e, aNil_e, dBin_e, dV_0, dV_1, dV_2, dC_e, Res.bind_ok, t3, pN, r2]; rfl)]
      rw [seq_nx (ρ1 := [some TW, some (.fl LW), some (.str p), some (rat dt), some (.int nt), some (.fl (A.map lkW)), some (rat du), some (.int nu), some (.fl (C.map lkW)), some (rat ds), none, none]) (h1 := h) (by
        simp only [sAsg_e, dCall_e, aCons_e, aNil_e, dV_3, dV_6, Res.bind_ok, ps]; rfl)]
      rw [seq_nx (ρ1 := [some TW, some (.fl LW), some (.str p), some (rat dt), some (.int nt), some (.fl (A.map lkW)), some (rat du), some (.int nu), some (.fl (C.map lkW)), some (rat ds), some (.int (nt + nu)), none]) (h1 := h) (by
        simp only [sAsg_e, dBin_e, dV_4, dV_7, Res.bind_ok, oAdd_i]; rfl)]
      have v9 : ∀ w h, dV 9 [some TW, some (.fl LW), some (.str p), some (rat dt), some (.int nt), some (.fl (A.map lkW)), some (rat du), some (.int nu), some (.fl (C.map lkW)), some (rat ds), some (.int (nt + nu)), w] h = .ok (rat ds) h := fun _ _ => rfl
      have v10 : ∀ w h, dV 10 [some TW, some (.fl LW), some (.str p), some (rat dt), some (.int nt), some (.fl (A.map lkW)), some (rat du), some (.int nu), some (.fl (C.map lkW)), some (rat ds), some (.int (nt + nu)), w] h = .ok (.int (nt + nu)) h := fun _ _ => rfl
      rw [seq_nx (ρ1 := [some TW, some (.fl LW), some (.str p), some (rat dt), some (.int nt), some (.fl (A.map lkW)), some (rat du), some (.int nu), some (.fl (C.map lkW)), some (rat ds), some (.int (nt + nu)), some (rat own)]) (h1 := h) (by
        simp only [sAsg_e, dCall_e, dTup_e, aCons_e, aNil_e, dBin_e, dV_0, v9, v10, dC_e, Res.bind_ok, t1, mi, oSub_i, List.length_cons, List.length_nil, Nat.zero_add, Nat.reduceAdd, big_lit2, if_true, ov]; rfl)]
      have v11 : ∀ h, dV 11 [some TW, some (.fl LW), some (.str p), some (rat dt), some (.int nt), some (.fl (A.map lkW)), some (rat du), some (.int nu), some (.fl (C.map lkW)), some (rat ds), some (.int (nt + nu)), some (rat own)] h = .ok (rat own) h := fun _ => rfl
      have v8 : ∀ h, dV 8 [some TW, some (.fl LW), some (.str p), some (rat dt), some (.int nt), some (.fl (A.map lkW)), some (rat du), some (.int nu), some (.fl (C.map lkW)), some (rat ds), some (.int (nt + nu)), some (rat own)] h = .ok (.fl (C.map lkW)) h := fun _ => rfl
      have z1 : dGz (dLst (aCons (dTup (aCons (dV 2) (aCons (dV 11) (aNil)))) (aNil))) [some TW, some (.fl LW), some (.str p), some (rat dt), some (.int nt), some (.fl (A.map lkW)), some (rat du), some (.int nu), some (.fl (C.map lkW)), some (rat ds), some (.int (nt + nu)), some (rat own)] h = .ok (.fl ([(p, own)].map lkW)) h := lst_gz (by
        simp only [aCons_e, aNil_e, dTup_e, dV_2, v11, Res.bind_ok, List.length_cons, List.length_nil, Nat.zero_add, Nat.reduceAdd, big_lit2, if_true]; rfl) (by simp) rfl
      have z2 : dGz (dBin oAdd (dGz (dLst (aCons (dTup (aCons (dV 2) (aCons (dV 11) (aNil)))) (aNil)))) (dV 8)) [some TW, some (.fl LW), some (.str p), some (rat dt), some (.int nt), some (.fl (A.map lkW)), some (rat du), some (.int nu), some (.fl (C.map lkW)), some (rat ds), some (.int (nt + nu)), some (rat own)] h = .ok (.fl (((p, own) :: C).map lkW)) h := by
        rw [dGz_e, dBin_e, z1, Res.bind_ok, v8, Res.bind_ok, oAdd_flfl (by rw [List.length_map, List.length_map, List.length_singleton]; unfold bigL; omega), ← List.map_append]
        exact gc_newL (pures_map fun x _ => lkW_pure x)
      have z3 : dGz (dBin oAdd (dGz (dBin oAdd (dGz (dLst (aCons (dTup (aCons (dV 2) (aCons (dV 11) (aNil)))) (aNil)))) (dV 8))) (dV 5)) [some TW, some (.fl LW), some (.str p), some (rat dt), some (.int nt), some (.fl (A.map lkW)), some (rat du), some (.int nu), some (.fl (C.map lkW)), some (rat ds), some (.int (nt + nu)), some (rat own)] h = .ok (.fl (((p, own) :: (C ++ A)).map lkW)) h := by
        rw [dGz_e, dBin_e, z2, Res.bind_ok, dV_5, Res.bind_ok, oAdd_flfl (by rw [List.length_map, List.length_map, List.length_cons]; unfold bigL; omega), ← List.map_append]
        exact gc_newL (pures_map fun x _ => lkW_pure x)
      simp only [sRet_e, dTup_e, aCons_e, aNil_e, v9, v10, z3, Res.bind_ok, List.length_cons, List.length_nil, Nat.zero_add, Nat.reduceAdd, big_lit3, if_true, onR_ok, endF_ret]
      exact gc_same _
    · have ey : (bst B y (.fk c t u) p).2 = [p] := by rw [bst_fk, if_neg k]
      have m : p ∈ L := (hL p (List.prefix_refl _)).mpr (by rw [ey]; exact List.mem_singleton.mpr rfl)
      rw [bsm_fk, if_neg k, bn_fk, if_neg k, lnk, if_neg k]
      exact leaf (.fk c t u) _ p h m
end Law
end PF
namespace PF
namespace Law
theorem topsof_e (S : List (List Nat)) (q : List Nat) (hS : S.length < 1000) (h : Hs) : f_tops_of [.fl (S.map W.str), .str q] h = .ok (.fl ((tops S q).map W.str)) h := by
  rw [f_tops_of_e]
  unfold b_tops_of
  have cz := comp_gz (it := iAny (dV 0)) (tg := .n 2) (t := tVal (dMeth .str mStarts (dV 1) (aCons (dV 2) (aNil)))) (e := dV 2) (own := [2]) (ρ := [some (.fl (S.map W.str)), some (.str q), none]) (h := h) W.str W.str (fun s => topB s q) S (iAny_fl rfl) (fun _ => stays_fl) (by unfold bigL; omega) (fun _ _ _ => rfl) (fun s _ => by
    refine ⟨_, rfl, fun acc => ?_⟩
    simp [wipe, dMeth_e, kdOf, mStarts, topB])
  rw [sRet_e, cz, onR_ok, endF_ret]
  exact gc_same _
end Law
end PF
namespace PF
namespace Law
theorem tup2_pure (q : Rat) (L : List (List Nat)) : (W.tup [rat q, .fl (L.map W.str)]).pure = true := by
  have e : (W.fl (L.map W.str)).pure = true := by rw [W.pure]; exact strs_pure L
  rw [W.pure, pures_cons, pures_cons, e]; rfl
theorem fl_pure (L : List (List Nat)) : (W.fl (L.map W.str)).pure = true := by rw [W.pure]; exact strs_pure L
theorem best_e (B : Int) (hB : 0 < B ∧ B < 2 ^ 100) (y : Rat) (ry : RB 900 y) : ∀ (t : Tr) (n : Nat) (p : List Nat) (h : Hs), t.high < n → p.length + t.high < 1000 → t.leaves ≤ 100 → t.costs (2 ^ 105) →
    f_best_under n [trF (fun c => rat (Rat.divInt c B)) t, rat y, .str p] h = .ok (.tup [rat (bst B y t p).1, .fl ((bst B y t p).2.map W.str)]) h
  | .en c, n + 1, p, h, _, _, _, tc => by
    rw [f_best_under_e]
    unfold b_best_under
    have sz := tcost_sz tc
    have sz : -(2 ^ 105) ≤ c ∧ c ≤ 2 ^ 105 := sz
    have t0 := trg0 (fun c => rat (Rat.divInt c B)) (.en c)
    have t1 := trg1 (fun c => rat (Rat.divInt c B)) (.en c)
    have pl := plus_r (Rat.divInt c B) y h ((rb_of (n := 120) hB.1 (by omega) (by omega)).le (by omega)) (ry.le (by omega))
    have t1 : ∀ h, oIx (trF (fun c => rat (Rat.divInt c B)) (.en c)) (.int 1) h = .ok (rat (Rat.divInt c B)) h := t1
    have k0 : ∀ h, oEq (.str (kindOf (.en c))) (.str [101, 110, 100]) h = .ok (.bl true) h := fun h => rfl
    have lz : dGz (dLst (aCons (dV 2) (aNil))) [some (trF (fun c => rat (Rat.divInt c B)) (.en c)), some (rat y), some (.str p), some (rat (Rat.divInt c B + y)), none, none, none, none, none] h = .ok (.fl [.str p]) h := lst_gz rfl (by simp) rfl
    rw [seq_nx (ρ1 := [some (trF (fun c => rat (Rat.divInt c B)) (.en c)), some (rat y), some (.str p), some (rat (Rat.divInt c B + y)), none, none, none, none, none]) (h1 := h) (by
      simp only [sAsg_e, dCall_e, aCons_e, aNil_e, dBin_e, dV_0, dV_1, dC_e, Res.bind_ok, t1, pl]; rfl)]
    have e : sIf (tVal (dBin oEq (dBin oIx (dV 0) (dC (.int 0))) (dC (.str [101, 110, 100])))) (sRet (dTup (aCons (dV 3) (aCons (dGz (dLst (aCons (dV 2) (aNil)))) (aNil))))) (sNx) [some (trF (fun c => rat (Rat.divInt c B)) (.en c)), some (rat y), some (.str p), some (rat (Rat.divInt c B + y)), none, none, none, none, none] h = .ret (.tup [rat (Rat.divInt c B + y), .fl [.str p]]) h := by
      simp only [sIf_e, tVal_e, dBin_e, dV_0, dC_e, Res.bind_ok, t0, k0, asB_b, onR_ok, if_true, sRet_e, dTup_e, aCons_e, aNil_e, dV_3, lz, List.length_cons, List.length_nil, Nat.zero_add, Nat.reduceAdd, big_lit2]
    rw [sSeq_t, e, bst]
    exact gc_same _
  | .fk c t u, n + 1, p, h, hn, hp, hl, tc => by
    rw [f_best_under_e]
    unfold b_best_under
    have hh : (Tr.fk c t u).high = 1 + max t.high u.high := rfl
    have hv : (Tr.fk c t u).leaves = t.leaves + u.leaves := rfl
    rw [hh] at hn hp
    rw [hv] at hl
    have sz : -(2 ^ 105) ≤ c ∧ c ≤ 2 ^ 105 := tc.1
    have t0 := trg0 (fun c => rat (Rat.divInt c B)) (.fk c t u)
    have t1 : ∀ h, oIx (trF (fun c => rat (Rat.divInt c B)) (.fk c t u)) (.int 1) h = .ok (rat (Rat.divInt c B)) h := trg1 (fun c => rat (Rat.divInt c B)) (.fk c t u)
    have t2 : ∀ h, oIx (trF (fun c => rat (Rat.divInt c B)) (.fk c t u)) (.int 2) h = .ok (trF (fun c => rat (Rat.divInt c B)) t) h := fun h => oIx_tup (k := 2) rfl
    have t3 : ∀ h, oIx (trF (fun c => rat (Rat.divInt c B)) (.fk c t u)) (.int 3) h = .ok (trF (fun c => rat (Rat.divInt c B)) u) h := fun h => oIx_tup (k := 3) rfl
    have k0 : ∀ h, oEq (.str (kindOf (.fk c t u))) (.str [101, 110, 100]) h = .ok (.bl false) h := fun h => rfl
    have pl := plus_r (Rat.divInt c B) y h ((rb_of (n := 120) hB.1 (by omega) (by omega)).le (by omega)) (ry.le (by omega))
    have lt := t.leaves_pos
    have lu := u.leaves_pos
    have r1 := best_e B hB y ry t n (p ++ sY) h (by omega) (by simp; omega) (by omega) tc.2.1
    have r2 := best_e B hB y ry u n (p ++ sN) h (by omega) (by simp; omega) (by omega) tc.2.2
    have b1 := bst_rb hB ry t (p ++ sY) tc.2.1 (by omega)
    have b2 := bst_rb hB ry u (p ++ sN) tc.2.2 (by omega)
    have own : RB 1100 (Rat.divInt c B + y) := ((rb_of (n := 120) hB.1 (by omega) (by omega)).add ry).le (by omega)
    have ps := plus_r (bst B y t (p ++ sY)).1 (bst B y u (p ++ sN)).1 h (b1.le (by omega)) (b2.le (by omega))
    have un := under_r ((bst B y t (p ++ sY)).1 + (bst B y u (p ++ sN)).1) (Rat.divInt c B + y) h ((b1.add b2).le (by omega)) (own.le (by omega))
    obtain ⟨_, cs1, _⟩ := bst_cut hB.1 y t (p ++ sY)
    obtain ⟨_, cs2, _⟩ := bst_cut hB.1 y u (p ++ sN)
    have l1 := cs1.cut.len
    have l2 := cs2.cut.len
    have pY : ∀ h, oAdd (.str p) (.str [121]) h = .ok (.str (p ++ sY)) h := fun h => oAdd_str (by unfold bigL; simp; omega)
    have pN : ∀ h, oAdd (.str p) (.str [110]) h = .ok (.str (p ++ sN)) h := fun h => oAdd_str (by unfold bigL; simp; omega)
    obtain ⟨G, hG⟩ : ∃ G : Int → W, G = fun c => rat (Rat.divInt c B) := ⟨_, rfl⟩
    rw [← hG] at t0 t1 t2 t3 r1 r2 ⊢
    rw [bst]
    obtain ⟨X, hX⟩ : ∃ X, X = bst B y t (p ++ sY) := ⟨_, rfl⟩
    obtain ⟨Z, hZ⟩ : ∃ Z, Z = bst B y u (p ++ sN) := ⟨_, rfl⟩
    rw [← hX] at r1 ps un l1 ⊢
    rw [← hZ] at r2 ps un l2 ⊢
    obtain ⟨TW, hTW⟩ : ∃ TW, TW = trF G (.fk c t u) := ⟨_, rfl⟩
    rw [← hTW] at t0 t1 t2 t3 ⊢
    rw [seq_nx (ρ1 := [some TW, some (rat y), some (.str p), some (rat (Rat.divInt c B + y)), none, none, none, none, none]) (h1 := h) (by
      simp only [sAsg_e, dCall_e, aCons_e, aNil_e, dBin_e, dV_0, dV_1, dC_e, Res.bind_ok, t1, pl]; rfl)]
    rw [seq_nx (ρ1 := [some TW, some (rat y), some (.str p), some (rat (Rat.divInt c B + y)), none, none, none, none, none]) (h1 := h) (by
      simp only [sIf_e, tVal_e, dBin_e, dV_0, dC_e, Res.bind_ok, t0, k0, asB_b, onR_ok, Bool.false_eq_true, if_false, sNx_e])]
    rw [seq_nx (ρ1 := [some TW, some (rat y), some (.str p), some (rat (Rat.divInt c B + y)), some (rat X.1), some (.fl (X.2.map W.str)), none, none, none]) (h1 := h) (by
      simp only [sAsg_e, dCall_e, aCons_e, aNil_e, dBin_e, dV_0, dV_1, dV_2, dC_e, Res.bind_ok, t2, pY, r1]; rfl)]
    rw [seq_nx (ρ1 := [some TW, some (rat y), some (.str p), some (rat (Rat.divInt c B + y)), some (rat X.1), some (.fl (X.2.map W.str)), some (rat Z.1), some (.fl (Z.2.map W.str)), none]) (h1 := h) (by
      simp only [sAsg_e, dCall_e, aCons_e, aNil_e, dBin_e, dV_0, dV_1, dV_2, dC_e, Res.bind_ok, t3, pN, r2]; rfl)]
    rw [seq_nx (ρ1 := [some TW, some (rat y), some (.str p), some (rat (Rat.divInt c B + y)), some (rat X.1), some (.fl (X.2.map W.str)), some (rat Z.1), some (.fl (Z.2.map W.str)), some (rat (X.1 + Z.1))]) (h1 := h) (by
      simp only [sAsg_e, dCall_e, aCons_e, aNil_e, dV_4, dV_6, Res.bind_ok, ps]; rfl)]
    have v8 : ∀ h, dV 8 [some TW, some (rat y), some (.str p), some (rat (Rat.divInt c B + y)), some (rat X.1), some (.fl (X.2.map W.str)), some (rat Z.1), some (.fl (Z.2.map W.str)), some (rat (X.1 + Z.1))] h = .ok (rat (X.1 + Z.1)) h := fun _ => rfl
    have v7 : ∀ h, dV 7 [some TW, some (rat y), some (.str p), some (rat (Rat.divInt c B + y)), some (rat X.1), some (.fl (X.2.map W.str)), some (rat Z.1), some (.fl (Z.2.map W.str)), some (rat (X.1 + Z.1))] h = .ok (.fl (Z.2.map W.str)) h := fun _ => rfl
    have ad : dGz (dBin oAdd (dV 7) (dV 5)) [some TW, some (rat y), some (.str p), some (rat (Rat.divInt c B + y)), some (rat X.1), some (.fl (X.2.map W.str)), some (rat Z.1), some (.fl (Z.2.map W.str)), some (rat (X.1 + Z.1))] h = .ok (.fl ((Z.2 ++ X.2).map W.str)) h := by
      rw [dGz_e, dBin_e, v7, Res.bind_ok, dV_5, Res.bind_ok, oAdd_flfl (by rw [List.length_map, List.length_map]; unfold bigL; omega), ← List.map_append]
      exact gc_newL (strs_pure _)
    have lz : dGz (dLst (aCons (dV 2) (aNil))) [some TW, some (rat y), some (.str p), some (rat (Rat.divInt c B + y)), some (rat X.1), some (.fl (X.2.map W.str)), some (rat Z.1), some (.fl (Z.2.map W.str)), some (rat (X.1 + Z.1))] h = .ok (.fl [.str p]) h := lst_gz rfl (by simp) rfl
    by_cases k : X.1 + Z.1 < Rat.divInt c B + y
    · rw [if_pos k]
      have e : sIf (tVal (dCall f_under (aCons (dV 8) (aCons (dV 3) (aNil))))) (sRet (dTup (aCons (dV 8) (aCons (dGz (dBin oAdd (dV 7) (dV 5))) (aNil))))) (sNx) [some TW, some (rat y), some (.str p), some (rat (Rat.divInt c B + y)), some (rat X.1), some (.fl (X.2.map W.str)), some (rat Z.1), some (.fl (Z.2.map W.str)), some (rat (X.1 + Z.1))] h = .ret (.tup [rat (X.1 + Z.1), .fl ((Z.2 ++ X.2).map W.str)]) h := by
        simp only [sIf_e, tVal_e, dCall_e, aCons_e, aNil_e, v8, dV_3, Res.bind_ok, un, k, decide_true, asB_b, onR_ok, if_true, sRet_e, dTup_e, ad, List.length_cons, List.length_nil, Nat.zero_add, Nat.reduceAdd, big_lit2]
      rw [sSeq_t, e]
      have := gc_pure (h := h) (e := []) (tup2_pure (X.1 + Z.1) (Z.2 ++ X.2))
      rwa [List.append_nil] at this
    · rw [if_neg k]
      rw [seq_nx (ρ1 := [some TW, some (rat y), some (.str p), some (rat (Rat.divInt c B + y)), some (rat X.1), some (.fl (X.2.map W.str)), some (rat Z.1), some (.fl (Z.2.map W.str)), some (rat (X.1 + Z.1))]) (h1 := h) (by
        simp only [sIf_e, tVal_e, dCall_e, aCons_e, aNil_e, v8, dV_3, Res.bind_ok, un, k, decide_false, asB_b, onR_ok, Bool.false_eq_true, if_false, sNx_e])]
      simp only [sRet_e, dTup_e, aCons_e, aNil_e, dV_3, lz, Res.bind_ok, List.length_cons, List.length_nil, Nat.zero_add, Nat.reduceAdd, big_lit2, if_true, onR_ok, endF_ret]
      exact gc_same _
theorem cheapest_e (B : Int) (hB : 0 < B ∧ B < 2 ^ 100) (y : Rat) (ry : RB 900 y) (hy : 0 ≤ y.num) (t : Tr) (hh : t.high < 64) (hl : t.leaves ≤ 100) (tc : t.costs (2 ^ 105)) (h : Hs) : f_cheapest [trF (fun c => rat (Rat.divInt c B)) t, rat y] h = .ok (.fl ((bst B y t []).2.map W.str)) h := by
  rw [f_cheapest_e]
  unfold b_cheapest
  have b := best_e B hB y ry t 64 [] h hh (by simp; omega) hl tc
  have b : f_best_under 64 [trF (fun c => rat (Rat.divInt c B)) t, rat y, .str []] h = _ := b
  have hn : decide (y.num < 0) = false := decide_eq_false (by omega)
  generalize trF (fun c => rat (Rat.divInt c B)) t = TW at *
  rw [seq_nx (ρ1 := [some TW, some (rat y)]) (h1 := h) (by
    simp only [sIf_e, tVal_e, dBin_e, dV_1, dC_e, Res.bind_ok, rat_0, oLt_i, hn, asB_b, onR_ok, Bool.false_eq_true, if_false, sNx_e])]
  have ix : ∀ h, oIx (.tup [rat (bst B y t []).1, .fl ((bst B y t []).2.map W.str)]) (.int 1) h = .ok (.fl ((bst B y t []).2.map W.str)) h := fun h => oIx_t1
  simp only [sRet_e, dBin_e, dCall_e, aCons_e, aNil_e, dV_0, dV_1, dC_e, Res.bind_ok, b, ix, onR_ok, endF_ret]
  have := gc_pure (h := h) (e := []) (fl_pure (bst B y t []).2)
  rwa [List.append_nil] at this
end Law
end PF
namespace PF
namespace Law
def leastF (m : Rat) (x : List Nat × Rat) : Rat := if x.2 < m then x.2 else m
def leastL : List (List Nat × Rat) → Rat
  | [] => 0
  | x :: l => (x :: l).foldl leastF x.2
theorem least_fold : ∀ (l : List (List Nat × Rat)) (m : Rat), l.foldl leastF m ≤ m ∧ (∀ x, x ∈ l → l.foldl leastF m ≤ x.2) ∧ (l.foldl leastF m = m ∨ ∃ x, x ∈ l ∧ x.2 = l.foldl leastF m)
  | [], m => ⟨Rat.le_refl, fun _ h => (by cases h), .inl rfl⟩
  | x :: l, m => by
    obtain ⟨h1, h2, h3⟩ := least_fold l (leastF m x)
    rw [List.foldl_cons]
    have a : leastF m x ≤ m ∧ leastF m x ≤ x.2 ∧ (leastF m x = m ∨ leastF m x = x.2) := by
      unfold leastF
      split
      · rename_i k
        exact ⟨Rat.le_of_lt k, Rat.le_refl, .inr rfl⟩
      · rename_i k
        exact ⟨Rat.le_refl, Rat.not_lt.mp k, .inl rfl⟩
    obtain ⟨a1, a2, a3⟩ := a
    refine ⟨Rat.le_trans h1 a1, fun w hw => ?_, ?_⟩
    · rcases List.mem_cons.mp hw with hw | hw
      · rw [hw]; exact Rat.le_trans h1 a2
      · exact h2 w hw
    · rcases h3 with h3 | ⟨w, hw, e⟩
      · rcases a3 with a3 | a3
        · exact .inl (h3.trans a3)
        · exact .inr ⟨x, List.mem_cons_self .., (h3.trans a3).symm⟩
      · exact .inr ⟨w, List.mem_cons_of_mem _ hw, e⟩
theorem least_is {l : List (List Nat × Rat)} (hl : l ≠ []) : (∀ x, x ∈ l → leastL l ≤ x.2) ∧ ∃ x, x ∈ l ∧ x.2 = leastL l := by
  cases l with
  | nil => exact absurd rfl hl
  | cons x l =>
    obtain ⟨h1, h2, h3⟩ := least_fold (x :: l) x.2
    refine ⟨h2, ?_⟩
    rcases h3 with h3 | h3
    · exact ⟨x, List.mem_cons_self .., h3.symm⟩
    · exact h3
/-! the row of prices -/
def nxt (B : Int) (t : Tr) (y : Rat) : Rat := leastL (lnk B y t [])
def yk (B : Int) (t : Tr) : Nat → Rat
  | 0 => 0
  | k + 1 => nxt B t (yk B t k)
abbrev root (B : Int) (t : Tr) (y : Rat) : Prop := (bst B y t []).2 = [[]]
theorem root_or (B : Int) (t : Tr) (y : Rat) : root B t y ∨ lnk B y t [] ≠ [] := by
  cases t with
  | en c => exact .inl rfl
  | fk c t u =>
    by_cases k : ins B y c t u
    · right; rw [lnk, if_pos k]; simp
    · left; unfold root; rw [bst_fk, if_neg k]
theorem nxt_is {B : Int} (hB : 0 < B) {t : Tr} {y : Rat} (h : ¬ root B t y) : y < nxt B t y ∧ (∀ x, x ∈ lnk B y t [] → nxt B t y ≤ x.2) ∧ bn B (nxt B t y) t < bn B y t := by
  have hl := (root_or B t y).resolve_left h
  obtain ⟨h1, x, hx, e⟩ := least_is hl
  have a : y < nxt B t y := by
    unfold nxt
    rw [← e]; exact lnk_above hB y t [] x hx
  exact ⟨a, h1, (bn_fewer hB (Rat.le_of_lt a) t [] h1).2 ⟨x, hx, e⟩⟩
def Good (B : Int) (t : Tr) (k : Nat) : Prop := ∀ i, i < k → ¬ root B t (yk B t i)
theorem Good.step {B : Int} {t : Tr} {k : Nat} (g : Good B t k) (h : ¬ root B t (yk B t k)) : Good B t (k + 1) := fun i hi => by
  rcases Nat.lt_succ_iff_lt_or_eq.mp hi with hi | hi
  · exact g i hi
  · rw [hi]; exact h
theorem Good.few {B : Int} (hB : 0 < B) {t : Tr} : ∀ {k : Nat}, Good B t k → bn B (yk B t k) t + k ≤ t.leaves
  | 0, _ => bn_le B _ t
  | k + 1, g => by
    have h1 := Good.few hB (k := k) fun i hi => g i (by omega)
    have h2 := (nxt_is hB (g k (by omega))).2.2
    have e : yk B t (k + 1) = nxt B t (yk B t k) := rfl
    rw [e]
    omega
theorem Good.nn {B : Int} (hB : 0 < B) {t : Tr} : ∀ {k : Nat}, Good B t k → 0 ≤ yk B t k
  | 0, _ => Rat.le_refl
  | k + 1, g => by
    have h1 := Good.nn hB (k := k) fun i hi => g i (by omega)
    exact Rat.le_trans h1 (Rat.le_of_lt (nxt_is hB (g k (by omega))).1)
theorem Good.rb {B : Int} (hB : 0 < B ∧ B < 2 ^ 100) {t : Tr} (hl : t.leaves ≤ 100) (tc : t.costs (2 ^ 105)) : ∀ {k : Nat}, Good B t k → RB 400 (yk B t k)
  | 0, _ => ⟨by show (0 : Int).natAbs < 2 ^ 400; exact Nat.pow_pos (by omega), by show 1 < 2 ^ 400; exact Nat.one_lt_two_pow (by omega)⟩
  | k + 1, g => by
    have hk := g k (by omega)
    obtain ⟨h1, x, hx, e⟩ := least_is ((root_or B t (yk B t k)).resolve_left hk)
    have e2 : yk B t (k + 1) = x.2 := e.symm
    rw [e2]
    exact lnk_rb hB _ t [] hl tc x hx
theorem last_is {B : Int} (hB : 0 < B) (t : Tr) : ∃ K, Good B t K ∧ root B t (yk B t K) := by
  have main : ∀ n k, bn B (yk B t k) t ≤ n → Good B t k → ∃ K, Good B t K ∧ root B t (yk B t K) := by
    intro n
    induction n with
    | zero => intro k h _; have := bn_pos B (yk B t k) t; omega
    | succ n ih =>
      intro k h g
      by_cases r : root B t (yk B t k)
      · exact ⟨k, g, r⟩
      · have := (nxt_is hB r).2.2
        exact ih (k + 1) (by show bn B (nxt B t (yk B t k)) t ≤ n; omega) (g.step r)
  exact main _ 0 (Nat.le_refl _) fun i hi => by omega
theorem last_one {B : Int} {t : Tr} {K J : Nat} (g : Good B t K) (r : root B t (yk B t K)) (g' : Good B t J) (r' : root B t (yk B t J)) : J = K := by
  rcases Nat.lt_trichotomy J K with h | h | h
  · exact absurd r' (g J h)
  · exact h
  · exact absurd r (g' K h)
theorem cut_yk {B : Int} (hB : 0 < B) {t : Tr} {y : Rat} (h : ¬ root B t y) : cutP (bst B y t []).2 (metP B y (nxt B t y) t) = (bst B (nxt B t y) t []).2 :=
  cut_next hB (Rat.le_of_lt (nxt_is hB h).1) t (nxt_is hB h).2.1
/-! the walk -/
theorem links_e (B : Int) (hB : 0 < B ∧ B < 2 ^ 100) (y : Rat) (t : Tr) (hh : t.high < 64) (hl : t.leaves ≤ 100) (tc : t.costs (2 ^ 105)) (h : Hs) : f_all_links [trF (fun c => rat (Rat.divInt c B)) t, .fl ((bst B y t []).2.map W.str)] h = .ok (.fl ((lnk B y t []).map lkW)) h := by
  rw [f_all_links_e]
  unfold b_all_links
  have l := linked_e B hB y (bst B y t []).2 t 64 [] h hh (by simp; omega) hl tc fun q _ => Iff.rfl
  have l : f_linked_under 64 [trF (fun c => rat (Rat.divInt c B)) t, .fl ((bst B y t []).2.map W.str), .str []] h = _ := l
  generalize trF (fun c => rat (Rat.divInt c B)) t = TW at *
  generalize (bst B y t []).2.map W.str = LW at *
  have ix : ∀ a b c h, oIx (.tup [a, b, c]) (.int 2) h = .ok c h := fun a b c h => oIx_tup (k := 2) rfl
  simp only [sRet_e, dBin_e, dCall_e, aCons_e, aNil_e, dV_0, dV_1, dC_e, Res.bind_ok, l, ix, onR_ok, endF_ret]
  have := gc_pure (h := h) (e := []) (lks_pure (lnk B y t []))
  rwa [List.append_nil] at this
theorem least_e (l : List (List Nat × Rat)) (hl : l ≠ []) (rl : ∀ x, x ∈ l → RB 400 x.2) (h : Hs) : f_least_link [.fl (l.map lkW)] h = .ok (rat (leastL l)) h := by
  rw [f_least_link_e]
  unfold b_least_link
  cases l with
  | nil => exact absurd rfl hl
  | cons x l =>
    have i1 : ∀ h, oIx (.fl ((x :: l).map lkW)) (.int 0) h = .ok (lkW x) h := fun h => oIx_fl (k := 0) rfl
    have i2 : ∀ h, oIx (lkW x) (.int 1) h = .ok (rat x.2) h := fun h => oIx_t1
    obtain ⟨ρ', h', e, ⟨a, b, eρ, eh, er⟩⟩ := forL_st (enc := lkW) (g := [(.fl ((x :: l).map lkW), (x :: l).map lkW)]) (tg := .t [.n 2, .n 3]) (b := L1_least_link) (fun (s : Rat) ρ h' => ∃ a b : Option W, ρ = [some (.fl ((x :: l).map lkW)), some (rat s), a, b] ∧ h' = h ∧ RB 400 s) leastF (x :: l) x.2 [some (.fl ((x :: l).map lkW)), some (rat x.2), none, none] h ⟨none, none, rfl, rfl, rl x (List.mem_cons_self ..)⟩ (fun _ _ _ _ => stays_fl) (by
      rintro s w ρ h' hw ⟨a, b, rfl, rfl, rs⟩
      have rw' := rl w hw
      have un := under_r w.2 s h' (rw'.le (by omega)) (rs.le (by omega))
      refine ⟨[some (.fl ((x :: l).map lkW)), some (rat s), some (.str w.1), some (rat w.2)], rfl, .inl ?_⟩
      unfold leastF
      by_cases k : w.2 < s
      · refine ⟨[some (.fl ((x :: l).map lkW)), some (rat w.2), some (.str w.1), some (rat w.2)], h', ?_, ?_⟩
        · rw [decide_eq_true k] at un
          unfold L1_least_link
          simp only [sIf_e, tVal_e, dCall_e, aCons_e, aNil_e, dV_1, dV_3, Res.bind_ok, un, asB_b, onR_ok, if_true, sAsg_e]
          rfl
        · rw [if_pos k]; exact ⟨_, _, rfl, rfl, rw'⟩
      · refine ⟨[some (.fl ((x :: l).map lkW)), some (rat s), some (.str w.1), some (rat w.2)], h', ?_, ?_⟩
        · rw [decide_eq_false k] at un
          unfold L1_least_link
          simp only [sIf_e, tVal_e, dCall_e, aCons_e, aNil_e, dV_1, dV_3, Res.bind_ok, un, asB_b, onR_ok, Bool.false_eq_true, if_false, sNx_e]
        · rw [if_neg k]; exact ⟨_, _, rfl, rfl, rs⟩)
    rw [eρ, eh] at e
    rw [seq_nx (ρ1 := [some (.fl ((x :: l).map lkW)), some (rat x.2), none, none]) (h1 := h) (by
      simp only [sAsg_e, dBin_e, dV_0, dC_e, Res.bind_ok, i1, i2]; rfl)]
    rw [seq_nx (by rw [sFor_e, iAny_fl (h1 := h) rfl, onR_ok]; exact e)]
    simp only [sRet_e, dV_1, onR_ok, endF_ret]
    exact gc_same _
theorem cutF_e (L S : List (List Nat)) (hL : L.length < 1000) (hS : S.length < 1000) (h : Hs) : f_cut [.fl (L.map W.str), .fl (S.map W.str)] h = .ok (.fl ((cutP L S).map W.str)) h := by
  rw [f_cut_e]
  unfold b_cut
  have te := fun q h => topsof_e S q hS h
  have c1 := comp_gz (it := iAny (dV 0)) (tg := .n 4) (t := tVal (dBin oEq (dCall bLen (aCons (dCall f_tops_of (aCons (dV 1) (aCons (dV 4) (aNil)))) (aNil))) (dC (.int 0)))) (e := dV 4) (own := [4]) (ρ := [some (.fl (L.map W.str)), some (.fl (S.map W.str)), none, none, none]) (h := h) W.str W.str (fun q => decide ((tops S q).length = 0)) L (iAny_fl rfl) (fun _ => stays_fl) (by unfold bigL; omega) (fun _ _ _ => rfl) (fun s _ => by
    refine ⟨[some (.fl (L.map W.str)), some (.fl (S.map W.str)), none, none, some (.str s)], rfl, fun acc => ⟨?_, fun _ => rfl⟩⟩
    have e : decide (((tops S s).length : Int) = 0) = decide ((tops S s).length = 0) := decide_eq_decide.mpr (by omega)
    rw [← e]
    simp only [tVal_e, dBin_e, dCall_e, aCons_e, aNil_e, dV_1, dV_4, dC_e, Res.bind_ok, te, bLen_fl, List.length_map, oEq_i, asB_b, beq_dec])
  have c2 := comp_gz (it := iAny (dV 1)) (tg := .n 4) (t := tVal (dBin oEq (dCall bLen (aCons (dCall f_tops_of (aCons (dV 1) (aCons (dV 4) (aNil)))) (aNil))) (dC (.int 1)))) (e := dV 4) (own := [4]) (ρ := [some (.fl (L.map W.str)), some (.fl (S.map W.str)), some (.fl ((keptP L S).map W.str)), none, none]) (h := h) W.str W.str (fun q => decide ((tops S q).length = 1)) S (iAny_fl rfl) (fun _ => stays_fl) (by unfold bigL; omega) (fun _ _ _ => rfl) (fun s _ => by
    refine ⟨[some (.fl (L.map W.str)), some (.fl (S.map W.str)), some (.fl ((keptP L S).map W.str)), none, some (.str s)], rfl, fun acc => ⟨?_, fun _ => rfl⟩⟩
    have e : decide (((tops S s).length : Int) = 1) = decide ((tops S s).length = 1) := decide_eq_decide.mpr (by omega)
    rw [← e]
    simp only [tVal_e, dBin_e, dCall_e, aCons_e, aNil_e, dV_1, dV_4, dC_e, Res.bind_ok, te, bLen_fl, List.length_map, oEq_i, asB_b, beq_dec])
  have lk : (keptP L S).length ≤ L.length := List.length_filter_le _ _
  have lo : (outerP S).length ≤ S.length := List.length_filter_le _ _
  rw [seq_nx (ρ1 := [some (.fl (L.map W.str)), some (.fl (S.map W.str)), some (.fl ((keptP L S).map W.str)), none, none]) (h1 := h) (by rw [sAsg_e, c1]; rfl)]
  rw [seq_nx (ρ1 := [some (.fl (L.map W.str)), some (.fl (S.map W.str)), some (.fl ((keptP L S).map W.str)), some (.fl ((outerP S).map W.str)), none]) (h1 := h) (by rw [sAsg_e, c2]; rfl)]
  have z : dGz (dBin oAdd (dV 2) (dV 3)) [some (.fl (L.map W.str)), some (.fl (S.map W.str)), some (.fl ((keptP L S).map W.str)), some (.fl ((outerP S).map W.str)), none] h = .ok (.fl ((keptP L S ++ outerP S).map W.str)) h := by
    rw [dGz_e, dBin_e, dV_2, Res.bind_ok, dV_3, Res.bind_ok, oAdd_flfl (by simp [bigL]; omega), ← List.map_append]
    exact gc_newL (pures_map fun _ _ => rfl)
  have bs : bSorted [.fl ((keptP L S ++ outerP S).map W.str)] h = newL ((cutP L S).map W.str) h := by
    simp only [bSorted, dctOf, lstOf_fl, Option.bind_some, strsOf_map]
    rfl
  have gz : dGz (dCall bSorted (aCons (dGz (dBin oAdd (dV 2) (dV 3))) (aNil))) [some (.fl (L.map W.str)), some (.fl (S.map W.str)), some (.fl ((keptP L S).map W.str)), some (.fl ((outerP S).map W.str)), none] h = .ok (.fl ((cutP L S).map W.str)) h := by
    rw [dGz_e, dCall_e, aCons_e, z, Res.bind_ok, aNil_e, Res.bind_ok, Res.bind_ok, bs]
    exact gc_newL (strs_pure _)
  rw [sRet_e, gz, onR_ok, endF_ret]
  exact gc_same _
def stepW (B : Int) (t : Tr) (y : Rat) : W := .tup [rat y, .fl ((bst B y t []).2.map W.str)]
theorem stepW_pure (B : Int) (t : Tr) (y : Rat) : (stepW B t y).pure = true := by
  unfold stepW
  have e : (W.fl ((bst B y t []).2.map W.str)).pure = true := by rw [W.pure]; exact strs_pure _
  rw [W.pure, pures_cons, pures_cons, e]; rfl
def stepsW (B : Int) (t : Tr) (k : Nat) : List W := (List.range (k + 1)).map fun i => stepW B t (yk B t i)
theorem path_e (B : Int) (hB : 0 < B ∧ B < 2 ^ 100) (t : Tr) (hh : t.high < 64) (hl : t.leaves ≤ 100) (tc : t.costs (2 ^ 105)) {K : Nat} (g : Good B t K) (r : root B t (yk B t K)) (h : Hs) : f_path [trF (fun c => rat (Rat.divInt c B)) t] h = .ok (.fl (stepsW B t K)) h := by
  rw [f_path_e]
  unfold b_path
  have g0 : Good B t 0 := fun i hi => by omega
  have e00 : rat 0 = .tup [.int 0, .int 1] := rfl
  have ch := cheapest_e B hB 0 ((g0.rb hB hl tc).le (by omega)) (by show (0 : Int) ≤ 0; omega) t hh hl tc h
  rw [e00] at ch
  obtain ⟨HT, hHT⟩ : ∃ HT, HT = trF (fun c => rat (Rat.divInt c B)) t := ⟨_, rfl⟩
  rw [← hHT] at ch ⊢
  rw [seq_nx (ρ1 := [some HT, some (rat 0), none, none, none, none, none]) (h1 := h) (by
    simp only [sAsg_e, dTup_e, aCons_e, aNil_e, dC_e, Res.bind_ok, List.length_cons, List.length_nil, Nat.zero_add, Nat.reduceAdd, big_lit2, if_true]; rfl)]
  rw [← e00] at ch
  rw [seq_nx (ρ1 := [some HT, some (rat 0), some (.fl ((bst B 0 t []).2.map W.str)), none, none, none, none]) (h1 := h) (by
    simp only [sAsg_e, dCall_e, aCons_e, aNil_e, dV_0, dV_1, Res.bind_ok, ch]; rfl)]
  rw [seq_nx (ρ1 := [some HT, some (rat 0), some (.fl ((bst B 0 t []).2.map W.str)), some (.ref h.length), none, none, none]) (h1 := h ++ [.lst (stepsW B t 0)]) (by
    simp only [sAsg_e, dLst_e, dTup_e, aCons_e, aNil_e, dV_1, dV_2, Res.bind_ok, List.length_cons, List.length_nil, Nat.zero_add, Nat.reduceAdd, big_lit2, if_true]; rfl)]
  obtain ⟨k, ρ', h', ew, ⟨e4, e5, e6, eρ, eh, gk⟩, hc⟩ := while_ex (t := tVal (dBin oNe (dV 2) (dGz (dLst (aCons (dC (.str [])) (aNil)))))) (b := L1_path) (fun (k : Nat) ρ h' => ∃ e4 e5 e6 : Option W, ρ = [some HT, some (rat (yk B t k)), some (.fl ((bst B (yk B t k) t []).2.map W.str)), some (.ref h.length), e4, e5, e6] ∧ h' = h ++ [.lst (stepsW B t k)] ∧ Good B t k) (fun k => bn B (yk B t k) t) (fun k => !decide (root B t (yk B t k)))
    (by
      rintro k ρ h' ⟨e4, e5, e6, rfl, rfl, gk⟩
      have lz : dGz (dLst (aCons (dC (.str [])) (aNil))) [some HT, some (rat (yk B t k)), some (.fl ((bst B (yk B t k) t []).2.map W.str)), some (.ref h.length), e4, e5, e6] (h ++ [.lst (stepsW B t k)]) = .ok (.fl (([[]] : List (List Nat)).map W.str)) (h ++ [.lst (stepsW B t k)]) := lst_gz rfl (by simp) rfl
      rw [tVal_e, dBin_e, dV_2, Res.bind_ok, lz, Res.bind_ok, oNe_strs, Res.bind_ok, asB_b])
    (by
      rintro k ρ h' ⟨e4, e5, e6, rfl, rfl, gk⟩ hc
      have nr : ¬ root B t (yk B t k) := fun z => by rw [decide_eq_true z] at hc; cases hc
      obtain ⟨n1, n2, n3⟩ := nxt_is hB.1 nr
      have hne := (root_or B t (yk B t k)).resolve_left nr
      have fw := gk.few hB.1
      have bp := bn_pos B (yk B t k) t
      have al := links_e B hB (yk B t k) t hh hl tc (h ++ [.lst (stepsW B t k)])
      rw [← hHT] at al
      have le := least_e (lnk B (yk B t k) t []) hne (lnk_rb hB _ t [] hl tc) (h ++ [.lst (stepsW B t k)])
      have e1 : leastL (lnk B (yk B t k) t []) = yk B t (k + 1) := rfl
      rw [e1] at le
      have ck := cut_yk hB.1 nr
      have e2 : nxt B t (yk B t k) = yk B t (k + 1) := rfl
      rw [e2] at ck n1 n2 n3
      have ll := lnk_len B (yk B t k) t []
      have bl := bn_le B (yk B t k) t
      have ml : (metP B (yk B t k) (yk B t (k + 1)) t).length < 1000 := by
        unfold metP
        rw [List.length_map]
        have := List.length_filter_le (fun x : List Nat × Rat => decide (x.2 = yk B t (k + 1))) (lnk B (yk B t k) t [])
        omega
      have cu := cutF_e (bst B (yk B t k) t []).2 (metP B (yk B t k) (yk B t (k + 1)) t) (by have : (bst B (yk B t k) t []).2.length = bn B (yk B t k) t := rfl; omega) ml (h ++ [.lst (stepsW B t k)])
      rw [ck] at cu
      have kd : kdOf (.ref h.length) (h ++ [.lst (stepsW B t k)]) = some .lst := kd_at (ws := stepsW B t k) (by simp)
      have sl : (stepsW B t k).length = k + 1 := by simp [stepsW]
      have ap := mApp_end (h := h) (ws := stepsW B t k) (w := stepW B t (yk B t (k + 1))) (by rw [sl]; unfold bigL; omega)
      have es : stepsW B t k ++ [stepW B t (yk B t (k + 1))] = stepsW B t (k + 1) := by
        unfold stepsW
        rw [List.range_succ (n := k + 1), List.map_append]; rfl
      rw [es] at ap
      refine ⟨k + 1, [some HT, some (rat (yk B t (k + 1))), some (.fl ((bst B (yk B t (k + 1)) t []).2.map W.str)), some (.ref h.length), some (.fl ((lnk B (yk B t k) t []).map lkW)), e5, e6], h ++ [.lst (stepsW B t (k + 1))], .inl ?_, ⟨_, _, _, rfl, rfl, gk.step nr⟩, n3⟩
      have cm : dGz (dComp (iAny (dV 4)) (.t [.n 5, .n 6]) (tVal (dBin oEq (dV 6) (dV 1))) (dV 5) [5, 6]) [some HT, some (rat (yk B t (k + 1))), some (.fl ((bst B (yk B t k) t []).2.map W.str)), some (.ref h.length), some (.fl ((lnk B (yk B t k) t []).map lkW)), e5, e6] (h ++ [.lst (stepsW B t k)]) = .ok (.fl ((metP B (yk B t k) (yk B t (k + 1)) t).map W.str)) (h ++ [.lst (stepsW B t k)]) := by
        have := comp_gz (it := iAny (dV 4)) (tg := .t [.n 5, .n 6]) (t := tVal (dBin oEq (dV 6) (dV 1))) (e := dV 5) (own := [5, 6]) (ρ := [some HT, some (rat (yk B t (k + 1))), some (.fl ((bst B (yk B t k) t []).2.map W.str)), some (.ref h.length), some (.fl ((lnk B (yk B t k) t []).map lkW)), e5, e6]) (h := h ++ [.lst (stepsW B t k)]) lkW (fun x => W.str x.1) (fun x => decide (x.2 = yk B t (k + 1))) (lnk B (yk B t k) t []) (iAny_fl rfl) (fun _ => stays_fl) (by unfold bigL; omega) (fun _ _ _ => rfl) (fun x _ => by
          refine ⟨[some HT, some (rat (yk B t (k + 1))), some (.fl ((bst B (yk B t k) t []).2.map W.str)), some (.ref h.length), some (.fl ((lnk B (yk B t k) t []).map lkW)), some (.str x.1), some (rat x.2)], rfl, fun acc => ⟨?_, fun _ => rfl⟩⟩
          simp only [tVal_e, dBin_e, dV_6, dV_1, Res.bind_ok]
          rw [oEq_pl (n := 1) (by decide) (rat_pl 0 _) (rat_pl 0 _), Res.bind_ok, asB_b, decide_eq_decide.mpr rat_inj])
        rw [this]
        unfold metP
        rw [List.map_map]; rfl
      generalize (bst B (yk B t k) t []).2.map W.str = LW at *
      generalize (lnk B (yk B t k) t []).map lkW = KW at *
      generalize (metP B (yk B t k) (yk B t (k + 1)) t).map W.str = MW at *
      have ew : stepW B t (yk B t (k + 1)) = .tup [rat (yk B t (k + 1)), .fl ((bst B (yk B t (k + 1)) t []).2.map W.str)] := rfl
      rw [ew] at ap
      generalize (bst B (yk B t (k + 1)) t []).2.map W.str = NW at *
      unfold L1_path
      rw [seq_nx (ρ1 := [some HT, some (rat (yk B t k)), some (.fl LW), some (.ref h.length), some (.fl KW), e5, e6]) (h1 := h ++ [.lst (stepsW B t k)]) (by
        simp only [sAsg_e, dCall_e, aCons_e, aNil_e, dV_0, dV_2, Res.bind_ok, al]; rfl)]
      rw [seq_nx (ρ1 := [some HT, some (rat (yk B t (k + 1))), some (.fl LW), some (.ref h.length), some (.fl KW), e5, e6]) (h1 := h ++ [.lst (stepsW B t k)]) (by
        simp only [sAsg_e, dCall_e, aCons_e, aNil_e, dV_4, Res.bind_ok, le]; rfl)]
      rw [seq_nx (ρ1 := [some HT, some (rat (yk B t (k + 1))), some (.fl NW), some (.ref h.length), some (.fl KW), e5, e6]) (h1 := h ++ [.lst (stepsW B t k)]) (by
        rw [sAsg_e, dCall_e, aCons_e, dV_2, Res.bind_ok, aCons_e, cm]
        simp only [aNil_e, Res.bind_ok, cu]; rfl)]
      simp only [sExp_e, dMeth_e, dV_3, Res.bind_ok, kd, if_true, aCons_e, aNil_e, dTup_e, dV_1, dV_2, List.length_cons, List.length_nil, Nat.zero_add, Nat.reduceAdd, big_lit2, ap, onR_ok])
    0 [some HT, some (rat 0), some (.fl ((bst B 0 t []).2.map W.str)), some (.ref h.length), none, none, none] (h ++ [.lst (stepsW B t 0)]) ⟨none, none, none, rfl, rfl, g0⟩ (by
      have := bn_le B (yk B t 0) t
      exact Nat.lt_of_le_of_lt (Nat.le_trans this hl) (Nat.lt_of_lt_of_le (by omega : 100 < 2 ^ 7) (Nat.pow_le_pow_right (by omega) (by omega))))
  have rk : root B t (yk B t k) := by
    have : decide (root B t (yk B t k)) = true := by simpa using hc
    exact of_decide_eq_true this
  have ek : k = K := last_one g r gk rk
  rw [seq_nx ew, eρ, eh, ek]
  simp only [sRet_e, dV_3, onR_ok, endF_ret]
  exact gc_lst (Nat.le_refl _) (by simp) (pures_map fun i _ => stepW_pure B t _)
end Law
end PF
namespace PF
namespace Law
theorem root_bn {B : Int} {t : Tr} {y : Rat} (r : root B t y) : bn B y t = 1 := by
  have : (bst B y t []).2 = [[]] := r
  unfold bn
  rw [this]; rfl
/-- the best leaves at any price are those of the last told price not above it -/
theorem same_at {B : Int} (hB : 0 < B) {t : Tr} {K j : Nat} (g : Good B t K) (r : root B t (yk B t K)) (hj : j ≤ K) {p : Rat} (h1 : yk B t j ≤ p) (h2 : j < K → p < yk B t (j + 1)) : (bst B p t []).2 = (bst B (yk B t j) t []).2 := by
  refine bst_same hB h1 t [] fun x hx => ?_
  rcases Nat.lt_or_eq_of_le hj with k | k
  · have n := (nxt_is hB (g j k)).2.1 x hx
    have : nxt B t (yk B t j) = yk B t (j + 1) := rfl
    rw [this] at n
    have := h2 k
    grind
  · rw [k] at hx
    have a := lnk_len B (yk B t K) t []
    rw [root_bn r] at a
    have : lnk B (yk B t K) t [] = [] := List.length_eq_zero_iff.mp (by omega)
    rw [this] at hx
    cases hx
theorem steps_len (B : Int) (t : Tr) (K : Nat) : (stepsW B t K).length = K + 1 := by simp [stepsW]
theorem steps_get (B : Int) (t : Tr) (K i : Nat) (hi : i < K + 1) : (stepsW B t K)[i]? = some (stepW B t (yk B t i)) := by
  unfold stepsW
  rw [List.getElem?_map, List.getElem?_range hi]; rfl
theorem steps_drop (B : Int) (t : Tr) (K j : Nat) (hj : j < K + 1) : (stepsW B t K).drop j = stepW B t (yk B t j) :: (stepsW B t K).drop (j + 1) := by
  have e := steps_get B t K j hj
  have hl : j < (stepsW B t K).length := by rw [steps_len]; exact hj
  rw [List.getElem?_eq_getElem hl] at e
  rw [List.drop_eq_getElem_cons hl, Option.some.inj e]
theorem fp_loop {B : Int} (hB : 0 < B ∧ B < 2 ^ 100) {t : Tr} (hl : t.leaves ≤ 100) (tc : t.costs (2 ^ 105)) {K : Nat} (g : Good B t K) (r : root B t (yk B t K)) (p : Rat) (rp : RB 1500 p) (h : Hs) : ∀ (d j : Nat) (e3 e4 : Option W), j + d = K → yk B t j ≤ p → ∃ e3' e4', forL [(.fl (stepsW B t K), stepsW B t K)] (.t [.n 3, .n 4]) L1_for_price ((stepsW B t K).drop (j + 1)) [some (.fl (stepsW B t K)), some (rat p), some (.fl ((bst B (yk B t j) t []).2.map W.str)), e3, e4] h = .nx [some (.fl (stepsW B t K)), some (rat p), some (.fl ((bst B p t []).2.map W.str)), e3', e4'] h := by
  intro d
  induction d with
  | zero =>
    intro j e3 e4 hj hp
    have hj : j = K := hj
    refine ⟨e3, e4, ?_⟩
    rw [List.drop_eq_nil_of_le (by rw [steps_len]; omega), forL, if_pos stays_fl, same_at hB.1 g r (by omega) hp fun hk => by omega]
  | succ d ih =>
    intro j e3 e4 hj hp
    rw [steps_drop B t K (j + 1) (by omega), forL, if_pos stays_fl]
    have rj : RB 400 (yk B t (j + 1)) := Good.rb hB hl tc fun i hi => g i (by omega)
    have un := under_r p (yk B t (j + 1)) h (rp.le (by omega)) (rj.le (by omega))
    have rn : Tg.run (.t [.n 3, .n 4]) (stepW B t (yk B t (j + 1))) [some (.fl (stepsW B t K)), some (rat p), some (.fl ((bst B (yk B t j) t []).2.map W.str)), e3, e4] = some [some (.fl (stepsW B t K)), some (rat p), some (.fl ((bst B (yk B t j) t []).2.map W.str)), some (rat (yk B t (j + 1))), some (.fl ((bst B (yk B t (j + 1)) t []).2.map W.str))] := rfl
    rw [rn, onO_some]
    by_cases k : p < yk B t (j + 1)
    · refine ⟨some (rat (yk B t (j + 1))), some (.fl ((bst B (yk B t (j + 1)) t []).2.map W.str)), ?_⟩
      rw [decide_eq_true k] at un
      rw [same_at hB.1 g r (by omega) hp fun _ => k]
      generalize (bst B (yk B t j) t []).2.map W.str = LW at *
      generalize (bst B (yk B t (j + 1)) t []).2.map W.str = MW at *
      have bd : L1_for_price [some (.fl (stepsW B t K)), some (rat p), some (.fl LW), some (rat (yk B t (j + 1))), some (.fl MW)] h = .bk [some (.fl (stepsW B t K)), some (rat p), some (.fl LW), some (rat (yk B t (j + 1))), some (.fl MW)] h := by
        unfold L1_for_price
        have e : sIf (tVal (dCall f_under (aCons (dV 1) (aCons (dV 3) (aNil))))) (sBrk) (sNx) [some (.fl (stepsW B t K)), some (rat p), some (.fl LW), some (rat (yk B t (j + 1))), some (.fl MW)] h = .bk [some (.fl (stepsW B t K)), some (rat p), some (.fl LW), some (rat (yk B t (j + 1))), some (.fl MW)] h := by
          simp only [sIf_e, tVal_e, dCall_e, aCons_e, aNil_e, dV_1, dV_3, Res.bind_ok, un, asB_b, onR_ok, if_true]
          rfl
        rw [sSeq_t, e]
        rfl
      rw [bd]
    · obtain ⟨e3', e4', ie⟩ := ih (j + 1) (some (rat (yk B t (j + 1)))) (some (.fl ((bst B (yk B t (j + 1)) t []).2.map W.str))) (by omega) (Rat.not_lt.mp k)
      refine ⟨e3', e4', ?_⟩
      rw [decide_eq_false k] at un
      have bd : L1_for_price [some (.fl (stepsW B t K)), some (rat p), some (.fl ((bst B (yk B t j) t []).2.map W.str)), some (rat (yk B t (j + 1))), some (.fl ((bst B (yk B t (j + 1)) t []).2.map W.str))] h = .nx [some (.fl (stepsW B t K)), some (rat p), some (.fl ((bst B (yk B t (j + 1)) t []).2.map W.str)), some (rat (yk B t (j + 1))), some (.fl ((bst B (yk B t (j + 1)) t []).2.map W.str))] h := by
        generalize (bst B (yk B t j) t []).2.map W.str = LW at *
        generalize (bst B (yk B t (j + 1)) t []).2.map W.str = MW at *
        unfold L1_for_price
        rw [seq_nx (ρ1 := [some (.fl (stepsW B t K)), some (rat p), some (.fl LW), some (rat (yk B t (j + 1))), some (.fl MW)]) (h1 := h) (by
          simp only [sIf_e, tVal_e, dCall_e, aCons_e, aNil_e, dV_1, dV_3, Res.bind_ok, un, asB_b, onR_ok, Bool.false_eq_true, if_false, sNx_e])]
        simp only [sAsg_e, dV_4, onR_ok]
        rfl
      rw [bd]
      exact ie
theorem fp_all {B : Int} (hB : 0 < B ∧ B < 2 ^ 100) {t : Tr} (hl : t.leaves ≤ 100) (tc : t.costs (2 ^ 105)) {K : Nat} (g : Good B t K) (r : root B t (yk B t K)) (p : Rat) (hp : 0 ≤ p) (rp : RB 1500 p) (h : Hs) : ∃ e3' e4', forL [(.fl (stepsW B t K), stepsW B t K)] (.t [.n 3, .n 4]) L1_for_price (stepsW B t K) [some (.fl (stepsW B t K)), some (rat p), some (.fl ((bst B (yk B t 0) t []).2.map W.str)), none, none] h = .nx [some (.fl (stepsW B t K)), some (rat p), some (.fl ((bst B p t []).2.map W.str)), e3', e4'] h := by
  obtain ⟨e3', e4', e⟩ := fp_loop hB hl tc g r p rp h K 0 (some (rat (yk B t 0))) (some (.fl ((bst B (yk B t 0) t []).2.map W.str))) (by omega) hp
  refine ⟨e3', e4', ?_⟩
  have hd := steps_drop B t K 0 (by omega)
  rw [List.drop_zero] at hd
  have rj : RB 400 (yk B t 0) := Good.rb hB hl tc fun i hi => by omega
  have un := under_r p (yk B t 0) h (rp.le (by omega)) (rj.le (by omega))
  have nk : ¬ p < yk B t 0 := Rat.not_lt.mpr hp
  rw [decide_eq_false nk] at un
  have fe : forL [(.fl (stepsW B t K), stepsW B t K)] (.t [.n 3, .n 4]) L1_for_price (stepsW B t K) [some (.fl (stepsW B t K)), some (rat p), some (.fl ((bst B (yk B t 0) t []).2.map W.str)), none, none] h = forL [(.fl (stepsW B t K), stepsW B t K)] (.t [.n 3, .n 4]) L1_for_price (stepW B t (yk B t 0) :: (stepsW B t K).drop (0 + 1)) [some (.fl (stepsW B t K)), some (rat p), some (.fl ((bst B (yk B t 0) t []).2.map W.str)), none, none] h := by rw [← hd]
  rw [fe, forL, if_pos stays_fl]
  have rn : Tg.run (.t [.n 3, .n 4]) (stepW B t (yk B t 0)) [some (.fl (stepsW B t K)), some (rat p), some (.fl ((bst B (yk B t 0) t []).2.map W.str)), none, none] = some [some (.fl (stepsW B t K)), some (rat p), some (.fl ((bst B (yk B t 0) t []).2.map W.str)), some (rat (yk B t 0)), some (.fl ((bst B (yk B t 0) t []).2.map W.str))] := rfl
  rw [rn, onO_some]
  have bd : L1_for_price [some (.fl (stepsW B t K)), some (rat p), some (.fl ((bst B (yk B t 0) t []).2.map W.str)), some (rat (yk B t 0)), some (.fl ((bst B (yk B t 0) t []).2.map W.str))] h = .nx [some (.fl (stepsW B t K)), some (rat p), some (.fl ((bst B (yk B t 0) t []).2.map W.str)), some (rat (yk B t 0)), some (.fl ((bst B (yk B t 0) t []).2.map W.str))] h := by
    generalize (bst B (yk B t 0) t []).2.map W.str = LW at *
    unfold L1_for_price
    rw [seq_nx (ρ1 := [some (.fl (stepsW B t K)), some (rat p), some (.fl LW), some (rat (yk B t 0)), some (.fl LW)]) (h1 := h) (by
      simp only [sIf_e, tVal_e, dCall_e, aCons_e, aNil_e, dV_1, dV_3, Res.bind_ok, un, asB_b, onR_ok, Bool.false_eq_true, if_false, sNx_e])]
    simp only [sAsg_e, dV_4, onR_ok]
    rfl
  rw [bd]
  exact e
end Law
end PF
namespace PF
namespace Law
theorem forprice_e {B : Int} (hB : 0 < B ∧ B < 2 ^ 100) {t : Tr} (hl : t.leaves ≤ 100) (tc : t.costs (2 ^ 105)) {K : Nat} (g : Good B t K) (r : root B t (yk B t K)) (p : Rat) (hp : 0 ≤ p) (rp : RB 1500 p) (h : Hs) : f_for_price [.fl (stepsW B t K), rat p] h = .ok (.fl ((bst B p t []).2.map W.str)) h := by
  rw [f_for_price_e]
  unfold b_for_price
  have hn : decide (p.num < 0) = false := decide_eq_false (by have := Rat.num_nonneg.mpr hp; omega)
  obtain ⟨e3, e4, e⟩ := fp_all hB hl tc g r p hp rp h
  have i0 : ∀ h, oIx (.fl (stepsW B t K)) (.int 0) h = .ok (stepW B t (yk B t 0)) h := fun h => oIx_fl (k := 0) (steps_get B t K 0 (by omega))
  have i1 : ∀ h, oIx (stepW B t (yk B t 0)) (.int 1) h = .ok (.fl ((bst B (yk B t 0) t []).2.map W.str)) h := fun h => oIx_t1
  have pw := strs_pure (bst B p t []).2
  rw [seq_nx (ρ1 := [some (.fl (stepsW B t K)), some (rat p), none, none, none]) (h1 := h) (by
    simp only [sIf_e, tVal_e, dBin_e, dV_1, dC_e, Res.bind_ok, rat_0, oLt_i, hn, asB_b, onR_ok, Bool.false_eq_true, if_false, sNx_e])]
  rw [seq_nx (ρ1 := [some (.fl (stepsW B t K)), some (rat p), some (.fl ((bst B (yk B t 0) t []).2.map W.str)), none, none]) (h1 := h) (by
    simp only [sAsg_e, dBin_e, dV_0, dC_e, Res.bind_ok, i0, i1]; rfl)]
  rw [seq_nx (by rw [sFor_e, iAny_fl (h1 := h) rfl, onR_ok]; exact e)]
  generalize (bst B p t []).2.map W.str = LW at *
  have lg := list_gz (d := dV 2) (ρ := [some (.fl (stepsW B t K)), some (rat p), some (.fl LW), e3, e4]) (h := h) (ws := LW) rfl pw
  rw [sRet_e, lg, onR_ok, endF_ret]
  exact gc_same _
end Law
end PF
namespace PF
namespace Law
theorem last_at {B : Int} {t : Tr} {p : Rat} (hp : 0 ≤ p) : ∀ K : Nat, ∃ j, j ≤ K ∧ yk B t j ≤ p ∧ (j < K → p < yk B t (j + 1))
  | 0 => ⟨0, Nat.le_refl _, hp, fun h => by omega⟩
  | K + 1 => by
    obtain ⟨j, h1, h2, h3⟩ := last_at (t := t) hp K
    rcases Nat.lt_or_eq_of_le h1 with h | h
    · exact ⟨j, by omega, h2, fun _ => h3 h⟩
    · by_cases k : p < yk B t (K + 1)
      · exact ⟨j, by omega, h2, fun _ => by rw [h]; exact k⟩
      · exact ⟨K + 1, Nat.le_refl _, Rat.not_lt.mp k, fun z => by omega⟩
end Law
end PF
namespace PF
namespace Law
/-- w is a list of ws, frozen or at hand -/
def Lw (w : W) (ws : List W) (h : Hs) : Prop := ∀ e, lstOf w (h ++ e) = some ws
theorem Lw.fl {ws : List W} {h : Hs} : Lw (.fl ws) ws h := fun _ => rfl
theorem Lw.ref {i : Nat} {ws : List W} {h : Hs} (e : h[i]? = some (.lst ws)) : Lw (.ref i) ws h := fun e' => by
  have hi : i < h.length := (List.getElem?_eq_some_iff.mp e).1
  simp only [lstOf]
  rw [List.getElem?_append_left hi, e]
theorem Lw.ext {w : W} {ws : List W} {h : Hs} (l : Lw w ws h) (e : Hs) : Lw w ws (h ++ e) := fun e' => by rw [List.append_assoc]; exact l _
theorem Lw.at0 {w : W} {ws : List W} {h : Hs} (l : Lw w ws h) : lstOf w h = some ws := by have := l []; rwa [List.append_nil] at this
theorem Lw.or {w : W} {ws : List W} {h : Hs} (l : Lw w ws h) : w = .fl ws ∨ ∃ i, w = .ref i ∧ h[i]? = some (.lst ws) := by
  have a := l.at0
  unfold lstOf at a
  split at a
  · left; rw [Option.some.inj a]
  · rename_i i
    right
    refine ⟨i, rfl, ?_⟩
    split at a
    · rename_i us e
      rw [e, Option.some.inj a]
    · cases a
  · cases a
theorem Lw.any {w : W} {ws : List W} {h : Hs} (l : Lw w ws h) {d : D} {ρ : Env} (e : d ρ h = .ok w h) : iAny d ρ h = .ok (ws, [(w, ws)]) h := by
  unfold iAny
  rw [e, Res.bind_ok]
  rcases l.or with k | ⟨i, k, ei⟩
  · rw [k]
  · rw [k]; dsimp only; rw [ei]
theorem Lw.st {w : W} {ws : List W} {h : Hs} (l : Lw w ws h) (e : Hs) : stays [(w, ws)] (h ++ e) = true := by
  simp [stays, l e]
theorem Lw.st0 {w : W} {ws : List W} {h : Hs} (l : Lw w ws h) : stays [(w, ws)] h = true := by
  simp [stays, l.at0]
theorem Lw.len {w : W} {ws : List W} {h : Hs} (l : Lw w ws h) : bLen [w] h = .ok (.int ws.length) h := by
  rcases l.or with k | ⟨i, k, ei⟩
  · rw [k]; rfl
  · rw [k]; simp [bLen, ei]
theorem Lw.isl {w : W} {ws : List W} {h : Hs} (l : Lw w ws h) : oIs .list w h = .ok (.bl true) h := by
  rcases l.or with k | ⟨i, k, ei⟩
  · rw [k]; rfl
  · rw [k]; simp [oIs, isTy, ei]
theorem Lw.da {w : W} {ws : List W} {h : Hs} (l : Lw w ws h) : daOf h deepest w = daOf h deepest (.fl ws) := by
  rcases l.or with k | ⟨i, k, ei⟩
  · rw [k]
  · rw [k, show deepest = 59 + 1 from rfl, daOf_at ei]
theorem Lw.ne {w u : W} {ws : List W} {h : Hs} (l : Lw w ws h) : oNe u w h = oNe u (.fl ws) h := by
  unfold oNe eqW
  rw [l.da]
theorem Lw.ne' {w u : W} {ws : List W} {h : Hs} (l : Lw w ws h) : oNe w u h = oNe (.fl ws) u h := by
  unfold oNe eqW
  rw [l.da]
theorem Lw.sset {w : W} {ws : List W} {h : Hs} (l : Lw w ws h) : bSortSet [w] h = bSortSet [.fl ws] h := by
  simp only [bSortSet, l.at0]
  rfl
end Law
end PF
namespace PF
namespace Law
/-! what stands at a place -/
def sub : Tr → List Nat → Option Tr
  | t, [] => some t
  | .en _, _ :: _ => none
  | .fk _ t u, c :: q => if c = 121 then sub t q else if c = 110 then sub u q else none
def Tr.cost : Tr → Int
  | .en c => c
  | .fk c _ _ => c
theorem sub_nil (t : Tr) : sub t [] = some t := by cases t <;> rfl
theorem sub_nodes : ∀ (t : Tr) (p q : List Nat) (k : List Nat), (p ++ q, k) ∈ nodesOf t p ↔ ∃ u, sub t q = some u ∧ kindOf u = k
  | .en c, p, q, k => by
    rw [nodesOf, List.mem_singleton]
    cases q with
    | nil => simp [sub, kindOf, eq_comm]
    | cons a q => simp [sub]
  | .fk c t u, p, q, k => by
    rw [nodesOf, List.mem_cons, List.mem_append]
    cases q with
    | nil =>
      simp only [List.append_nil, sub_nil, Option.some.injEq, exists_eq_left', kindOf]
      constructor
      · rintro (h | h | h)
        · cases h; rfl
        · exact absurd (nodes_in u _ _ h).1 (self_apart (by simp))
        · exact absurd (nodes_in t _ _ h).1 (self_apart (by simp))
      · rintro rfl
        exact .inl rfl
    | cons a q =>
      have e : ∀ (b : Nat), p ++ b :: q = (p ++ [b]) ++ q := fun b => by simp
      have np : (p ++ a :: q, k) ≠ (p, tFork) := fun z => by
        have := congrArg (fun x : Pr => x.1.length) z
        simp at this
      rw [sub]
      by_cases h1 : a = 121
      · subst h1
        rw [if_pos rfl, ← sub_nodes t (p ++ sY) q k, ← e]
        constructor
        · rintro (h | h | h)
          · exact absurd h np
          · exfalso
            exact yn_apart (p := p) (q := p ++ 121 :: q) ⟨q, (e 121).symm⟩ (nodes_in u _ _ h).1
          · exact h
        · exact fun h => .inr (.inr h)
      · rw [if_neg h1]
        by_cases h2 : a = 110
        · subst h2
          rw [if_pos rfl, ← sub_nodes u (p ++ sN) q k, ← e]
          constructor
          · rintro (h | h | h)
            · exact absurd h np
            · exact h
            · exfalso
              exact yn_apart (p := p) (q := p ++ 110 :: q) (nodes_in t _ _ h).1 ⟨q, (e 110).symm⟩
          · exact fun h => .inr (.inl h)
        · rw [if_neg h2]
          have no : ∀ (b : Nat) (v : Tr), a ≠ b → (p ++ a :: q, k) ∈ nodesOf v (p ++ [b]) → False := fun b v hb h => by
            have z := (nodes_in v _ _ h).1
            have z2 : (p ++ [b]) <+: p ++ a :: q := z
            rw [List.prefix_append_right_inj] at z2
            obtain ⟨rest, hr⟩ := z2
            simp at hr
            exact hb hr.1.symm
          constructor
          · rintro (h | h | h)
            · exact absurd h np
            · exact (no 110 u h2 h).elim
            · exact (no 121 t h1 h).elim
          · rintro ⟨v, hv, _⟩
            cases hv
theorem sub_known (t : Tr) (q : List Nat) : q ∈ (nodesOf t []).map Prod.fst ↔ ∃ u, sub t q = some u := by
  rw [List.mem_map]
  constructor
  · rintro ⟨⟨q, k⟩, h, rfl⟩
    obtain ⟨u, hu, _⟩ := (sub_nodes t [] q k).mp h
    exact ⟨u, hu⟩
  · rintro ⟨u, hu⟩
    exact ⟨_, (sub_nodes t [] q (kindOf u)).mpr ⟨u, hu, rfl⟩, rfl⟩
theorem sub_costs {B : Int} : ∀ {t : Tr} {q : List Nat} {u : Tr}, sub t q = some u → t.costs B → u.costs B
  | t, [], u, h, k => by
    rw [sub_nil] at h
    cases h
    exact k
  | .en _, _ :: _, _, h, _ => by cases h
  | .fk c t u, a :: q, v, h, k => by
    rw [sub] at h
    split at h
    · exact sub_costs h k.2.1
    · split at h
      · exact sub_costs h k.2.2
      · cases h
theorem cost_sz {B : Int} {t : Tr} (k : t.costs B) : -B ≤ t.cost ∧ t.cost ≤ B := by
  cases t with
  | en c => exact k
  | fk c t u => exact k.1
end Law
end PF
namespace PF
namespace Law
theorem Cut.low {t : Tr} {p : List Nat} {L : List (List Nat)} (x : Cut t p L) : ∀ q, q ∈ L → q.length ≤ p.length + t.high := by
  induction x with
  | here t p => intro q hq; rw [List.mem_singleton.mp hq]; omega
  | split a b iha ihb =>
    intro q hq
    show _ ≤ _ + (1 + max _ _)
    rcases List.mem_append.mp hq with hq | hq
    · have := ihb q hq
      rw [List.length_append] at this
      have e : sN.length = 1 := rfl
      omega
    · have := iha q hq
      rw [List.length_append] at this
      have e : sY.length = 1 := rfl
      omega
end Law
end PF
namespace PF
namespace Law
theorem lr_loop (n : Nat) : ∀ (a b : Nat) (u v x : Option W) (h : Hs), b < n → ∃ x', whileF (tVal (dBin oGt (dV 3) (dC (.int 0)))) L1__law_ratio n [u, v, some (.int a), some (.int b), x] h = .nx [u, v, some (.int (Nat.gcd a b)), some (.int 0), x'] h := by
  induction n with
  | zero => intro a b u v x h hb; omega
  | succ n ih =>
    intro a b u v x h hb
    rw [whileF]
    by_cases hz : b = 0
    · subst hz
      refine ⟨x, ?_⟩
      simp
    · have hp : (0 : Int) < (b : Int) := by omega
      obtain ⟨x', e⟩ := ih b (a % b) u v (some (.int ((a % b : Nat) : Int))) h (by have := Nat.mod_lt a (by omega : 0 < b); omega)
      refine ⟨x', ?_⟩
      have eg : Nat.gcd a b = Nat.gcd b (a % b) := by rw [Nat.gcd_comm a b, Nat.gcd_rec b a, Nat.gcd_comm]
      rw [eg, ← e]
      simp [L1__law_ratio, hp, oModP hp, hz]
theorem lrat_e (t b : Int) (h : Hs) (h0 : 0 < b) (hb : b.natAbs < 2 ^ 9000) : f__law_ratio [.int t, .int b] h = .ok (low t b) h := by
  obtain ⟨x', e⟩ := lr_loop (b.natAbs + 1) t.natAbs b.natAbs (some (.int t)) (some (.int b)) none h (by omega)
  have e2 := sWhile_of e (by intro z; cases z) (FUEL_big hb)
  have eb : ((b.natAbs : Nat) : Int) = b := by omega
  rw [eb] at e2
  rw [f__law_ratio_e]
  unfold b__law_ratio
  have n0 : ¬ (b = 0) := by omega
  have eg : ((t.natAbs.gcd b.natAbs : Nat) : Int) = (Int.gcd t b : Int) := rfl
  simp [abs_nat, e2, eg, oDiv_i (gcd_div (t := t) (b := b) n0 hb _), low]
theorem lrat_q (t b : Int) (h : Hs) (h0 : 0 < b) (hb : b.natAbs < 2 ^ 9000) : f__law_ratio [.int t, .int b] h = .ok (rat (Rat.divInt t b)) h := by
  rw [lrat_e t b h h0 hb, low_rat t b h0]
end Law
end PF
namespace PF
namespace Law
/-- the costs at the places -/
def costAt (t : Tr) (q : List Nat) : Int := match sub t q with
  | some u => u.cost
  | none => 0
def costL (t : Tr) (L : List (List Nat)) : Int := (L.map (costAt t)).sum
theorem costL_sz {M : Int} (h0 : 0 ≤ M) {t : Tr} (k : t.costs M) : ∀ L : List (List Nat), -(L.length * M) ≤ costL t L ∧ costL t L ≤ L.length * M
  | [] => by simp [costL]
  | q :: L => by
    have ih := costL_sz h0 k L
    have e : costL t (q :: L) = costAt t q + costL t L := by simp [costL]
    have : -M ≤ costAt t q ∧ costAt t q ≤ M := by
      unfold costAt
      split
      · rename_i u hu
        exact cost_sz (sub_costs hu k)
      · omega
    have e2 : (((q :: L).length : Nat) : Int) * M = M + L.length * M := by
      rw [List.length_cons, Int.natCast_add, Int.add_mul]
      simp
      omega
    rw [e, e2]
    omega
theorem cost_n {c : Int} {t u : Tr} (r : List Nat) : costAt (.fk c t u) (110 :: r) = costAt u r := by
  unfold costAt
  rw [sub]
  rfl
theorem cost_y {c : Int} {t u : Tr} (r : List Nat) : costAt (.fk c t u) (121 :: r) = costAt t r := by
  unfold costAt
  rw [sub]
  rfl
theorem CutS.tot : ∀ {t : Tr} {p : List Nat} {L : List (List Nat)} {s : Int}, CutS t p L s → (L.map fun q => costAt t (q.drop p.length)).sum = s
  | _, _, _, _, .here t p => by
    rw [List.map_singleton, List.drop_length]
    unfold costAt
    rw [sub_nil]
    cases t <;> simp [Tr.cost, tcost]
  | _, p, _, _, .split (c := c) (t := t) (u := u) (A := A) (B := B) x z => by
    have h1 := x.tot
    have h2 := z.tot
    obtain ⟨F, fx⟩ := x.cut.toF
    obtain ⟨G, fz⟩ := z.cut.toF
    have e1 : (A.map fun q => costAt (.fk c t u) (q.drop p.length)) = A.map fun q => costAt t (q.drop (p ++ sY).length) := List.map_congr_left fun q hq => by
      obtain ⟨r, hr⟩ := fx.pre.1 q hq
      rw [← hr, List.drop_left, List.append_assoc, List.drop_left]
      exact cost_y r
    have e2 : (B.map fun q => costAt (.fk c t u) (q.drop p.length)) = B.map fun q => costAt u (q.drop (p ++ sN).length) := List.map_congr_left fun q hq => by
      obtain ⟨r, hr⟩ := fz.pre.1 q hq
      rw [← hr, List.drop_left, List.append_assoc, List.drop_left]
      exact cost_n r
    rw [List.map_append, List.sum_append, e1, e2, h1, h2, Int.add_comm]
theorem CutS.costL {t : Tr} {L : List (List Nat)} {s : Int} (x : CutS t [] L s) : costL t L = s := x.tot
end Law
end PF
namespace PF
namespace Law
/-! trees on a pile of their own -/
theorem cut_m2 {α : Type} (xs : List α) (a b : α) : cutW (xs ++ [a, b]) none (some (-2)) = xs := by
  have e : (-2 + ((xs ++ [a, b]).length : Int)).toNat = xs.length := by simp; omega
  simp only [cutW, sIxW, if_pos (show (-2 : Int) < 0 by omega), e, List.drop_zero, Nat.sub_zero]
  exact List.take_left
theorem atW_m1 {α : Type} (xs : List α) (a b : α) : atW (xs ++ [a, b]) (-1) = some b := by
  have := atW_last (xs := xs ++ [a]) (x := b)
  rwa [List.append_assoc] at this
theorem atW_m2 {α : Type} (xs : List α) (a b : α) : atW (xs ++ [a, b]) (-2) = some a := by
  unfold atW ixW
  rw [if_neg (by omega), if_pos (by simp; omega)]
  have e : (-2 + ((xs ++ [a, b]).length : Int)).toNat = xs.length := by simp; omega
  rw [e]
  simp
theorem oIx_at {h : Hs} {i : Nat} {ws : List W} {k : Int} {w : W} (e : h[i]? = some (.lst ws)) (a : atW ws k = some w) : oIx (.ref i) (.int k) h = .ok w h := by
  simp [oIx, e, a]
/-- a tree whose costs keep a measure by its leaves -/
structure TOk (M : Int) (t : Tr) : Prop where
  h : t.high < t.leaves
  c : t.costs ((2 * t.leaves - 1) * M)
theorem TOk.top {M : Int} {t : Tr} (o : TOk M t) : -((2 * t.leaves - 1) * M) ≤ tcost t ∧ tcost t ≤ (2 * t.leaves - 1) * M := tcost_sz o.c
theorem TOk.join {M : Int} {t u : Tr} (a : TOk M t) (b : TOk M u) (hM : 0 ≤ M) {g : Int} (h1 : -M ≤ g) (h2 : g ≤ M) : TOk M (.fk (tcost t + tcost u + g) t u) := by
  have pt := t.leaves_pos
  have pu := u.leaves_pos
  have e : (Tr.fk (tcost t + tcost u + g) t u).leaves = t.leaves + u.leaves := rfl
  have x := a.top
  have y := b.top
  have ha := a.h
  have hb := b.h
  have l1 : (2 * (t.leaves : Int) - 1) * M ≤ (2 * ((t.leaves + u.leaves : Nat) : Int) - 1) * M := Int.mul_le_mul_of_nonneg_right (by omega) hM
  have l2 : (2 * (u.leaves : Int) - 1) * M ≤ (2 * ((t.leaves + u.leaves : Nat) : Int) - 1) * M := Int.mul_le_mul_of_nonneg_right (by omega) hM
  have l3 : (2 * ((t.leaves + u.leaves : Nat) : Int) - 1) * M = (2 * (t.leaves : Int) - 1) * M + (2 * (u.leaves : Int) - 1) * M + M := by
    have : (2 * ((t.leaves + u.leaves : Nat) : Int) - 1) = (2 * (t.leaves : Int) - 1) + (2 * (u.leaves : Int) - 1) + 1 := by omega
    rw [this, Int.add_mul, Int.add_mul, Int.one_mul]
  refine ⟨by rw [e]; show 1 + max t.high u.high < _; omega, ?_⟩
  rw [e]
  refine ⟨⟨?_, ?_⟩, t.costs_le l1 a.c, u.costs_le l2 b.c⟩
  · rw [l3]; omega
  · rw [l3]; omega
theorem trW_1' (u : Tr) (h : Hs) : oIx (trW u) (.int 1) h = .ok (.int (tcost u)) h := by cases u <;> exact oIx_t1
theorem joined_L (qs : List Tr) (a b : Tr) (g : Int) (h : Hs) (w : W) (hl : qs.length < 1000) (ls : lstOf w h = some ((qs ++ [a, b]).map trW)) (ix : ∀ k x, atW ((qs ++ [a, b]).map trW) k = some x → oIx w (.int k) h = .ok x h) (sl : oSl w none (some (-2)) h = newL (qs.map trW) h) : f__law_joined [w, .int g] h = .ok (.ref h.length) (h ++ [.lst ((qs ++ [Tr.fk (tcost a + tcost b + g) a b]).map trW)]) := by
  rw [f__law_joined_e]
  unfold b__law_joined
  have i1 := ix (-1) (trW b) (by rw [List.map_append]; exact atW_m1 _ _ _)
  have i2 := ix (-2) (trW a) (by rw [List.map_append]; exact atW_m2 _ _ _)
  have c1 := trW_1' a
  have c2 := trW_1' b
  have s1 : dGz (dSl (dV 0) (pNo) (pAt (dUn oNeg (dC (.int 2))))) [some w, some (.int g), some (trW b), some (trW a)] h = .ok (.fl (qs.map trW)) h := by
    rw [dGz_e, dSl_e, dV_0, Res.bind_ok, pNo_e, Res.bind_ok, pAt_of (i := -2) rfl, Res.bind_ok, sl]
    exact gc_newL (pures_map fun x _ => trW_pure x)
  have s2 : dGz (dLst (aCons (dTup (aCons (dC (.str [102, 111, 114, 107])) (aCons (dBin oAdd (dBin oAdd (dBin oIx (dV 3) (dC (.int 1))) (dBin oIx (dV 2) (dC (.int 1)))) (dV 1)) (aCons (dV 3) (aCons (dV 2) (aNil)))))) (aNil))) [some w, some (.int g), some (trW b), some (trW a)] h = .ok (.fl [trW (Tr.fk (tcost a + tcost b + g) a b)]) h := by
    refine lst_gz ?_ (by simp) (by simp [trW_pure])
    generalize hA : trW a = TA at *
    generalize hB : trW b = TB at *
    simp only [sSeq_t, then_nx, then_ret, then_bk, then_ct, then_exc, sAsg_e, sIf_e, sRet_e, sRetN_e, sExp_e, sNx_e, sBrk_e, sCnt_e, sRaise_e, sFor_e, onR_ok, onR_exc, onO_some, run_n, run_t, runs_nil, runs_cons, Option.bind_some, dV_0, dV_1, dV_2, dV_3, dV_4, dV_5, dV_6, dV_7, dV_8, dV_9, dV_10, dV_11, dV_12, dV_13, dV_14, dV_15, dV_16, dC_e, dBin_e, dUn_e, dAnd_e, dOr_e, dNot_e, tVal_e, tAnd_e, tOr_e, tNot_e, dIf_e, dCall_e, aNil_e, aCons_e, dTup_e, Res.bind_ok, Res.bind_exc, asB_b, oAdd_i, oSub_i, oLt_i, oLe_i, oGt_i, oGe_i, oNeg_i, oEq_d, oNe_d, oEq_s, oNe_s, oAddI_i, bLen_fl, bLen_tup, bMax2_i, bMin2_i, List.length_cons, List.length_nil, List.length_map, Nat.zero_add, Nat.reduceAdd, Nat.reduceLT, big_lit0, big_lit1, big_lit2, big_lit3, big_lit4, if_true, if_false, List.set_cons_zero, List.set_cons_succ, decide_true, decide_false, Bool.not_true, Bool.not_false, Bool.false_eq_true, Bool.true_eq_false, decide_eq_true_eq, endF_ret, endF_nx, endF_exc, pAt_int, pNo_e, dSl_e, newL_e, cast0, cast1, cast2, cast3, cast4, cast5, c1, c2]
    rw [trW, hA, hB]
  have n1 : oNeg (.int 1) h = .ok (.int (-1)) h := rfl
  have n2 : oNeg (.int 2) h = .ok (.int (-2)) h := rfl
  rw [seq_nx (ρ1 := [some w, some (.int g), some (trW b), none]) (h1 := h) (by simp only [sAsg_e, dBin_e, dUn_e, dV_0, dC_e, Res.bind_ok, n1, i1]; rfl)]
  rw [seq_nx (ρ1 := [some w, some (.int g), some (trW b), some (trW a)]) (h1 := h) (by simp only [sAsg_e, dBin_e, dUn_e, dV_0, dC_e, Res.bind_ok, n2, i2]; rfl)]
  rw [sRet_e, dBin_e, s1, Res.bind_ok, s2, Res.bind_ok, oAdd_flfl (by simp [bigL]; omega), newL_e, onR_ok, endF_ret]
  have e : qs.map trW ++ [trW (Tr.fk (tcost a + tcost b + g) a b)] = (qs ++ [Tr.fk (tcost a + tcost b + g) a b]).map trW := by simp
  rw [e]
  exact gcL_lst (Nat.le_refl _) (by simp) (pures_map fun x _ => trW_pure x)
theorem joined_at (qs : List Tr) (a b : Tr) (g : Int) (h : Hs) (i : Nat) (hl : qs.length < 1000) (e : h[i]? = some (.lst ((qs ++ [a, b]).map trW))) : f__law_joined [.ref i, .int g] h = .ok (.ref h.length) (h ++ [.lst ((qs ++ [Tr.fk (tcost a + tcost b + g) a b]).map trW)]) :=
  joined_L qs a b g h (.ref i) hl (lstOf_ref e) (fun k x a => oIx_at e a) (by simp only [oSl, e]; rw [List.map_append]; exact congrArg (fun l => newL l h) (cut_m2 _ _ _))
theorem joined_fl (qs : List Tr) (a b : Tr) (g : Int) (h : Hs) (hl : qs.length < 1000) : f__law_joined [.fl ((qs ++ [a, b]).map trW), .int g] h = .ok (.ref h.length) (h ++ [.lst ((qs ++ [Tr.fk (tcost a + tcost b + g) a b]).map trW)]) :=
  joined_L qs a b g h _ hl rfl (fun k x a => by simp only [oIx, a]; rfl) (by rw [oSl_fl, List.map_append]; exact congrArg (fun l => newL l h) (cut_m2 _ _ _))
def pileN (ts : List Tr) : Nat := (ts.map Tr.leaves).sum
theorem pileN_end (ts us : List Tr) : pileN (ts ++ us) = pileN ts + pileN us := by simp [pileN]
theorem pileN_len : ∀ ts : List Tr, ts.length ≤ pileN ts
  | [] => Nat.zero_le _
  | t :: ts => by
    have := pileN_len ts
    have := t.leaves_pos
    have e : pileN (t :: ts) = t.leaves + pileN ts := by simp [pileN]
    rw [e, List.length_cons]; omega
theorem two_last' {α : Type} (ps : List α) (h : 1 < ps.length) : ∃ qs a b, ps = qs ++ [a, b] := by
  have h1 : ps ≠ [] := by intro z; rw [z] at h; simp at h
  refine ⟨ps.dropLast.dropLast, ps.dropLast.getLast (by intro z; have := congrArg List.length z; simp at this; omega), ps.getLast h1, ?_⟩
  have : ps.dropLast.dropLast ++ [ps.dropLast.getLast (by intro z; have := congrArg List.length z; simp at this; omega)] ++ [ps.getLast h1] = ps := by
    rw [List.dropLast_concat_getLast, List.dropLast_concat_getLast]
  rw [List.append_assoc] at this
  exact this.symm
/-- the pile at hand -/
structure Pile (h h' : Hs) (i : Nat) (M : Int) (n : Nat) (ts : List Tr) : Prop where
  st : ∃ J, h' = h ++ J
  at_ : h'[i]? = some (.lst (ts.map trW))
  ge : h.length ≤ i
  ok : ∀ t, t ∈ ts → TOk M t
  few : pileN ts ≤ n
theorem Pile.join {h h' : Hs} {i : Nat} {M : Int} {n : Nat} {qs : List Tr} {a b : Tr} (p : Pile h h' i M n (qs ++ [a, b])) (hM : 0 ≤ M) (hn : n ≤ 100) {g : Int} (h1 : -M ≤ g) (h2 : g ≤ M) : f__law_joined [.ref i, .int g] h' = .ok (.ref h'.length) (h' ++ [.lst ((qs ++ [Tr.fk (tcost a + tcost b + g) a b]).map trW)]) ∧ Pile h (h' ++ [.lst ((qs ++ [Tr.fk (tcost a + tcost b + g) a b]).map trW)]) h'.length M n (qs ++ [Tr.fk (tcost a + tcost b + g) a b]) := by
  have few := p.few
  have ln := pileN_len (qs ++ [a, b])
  refine ⟨joined_at qs a b g h' i (by rw [List.length_append] at ln; omega) p.at_, ?_, by simp, ?_, ?_, ?_⟩
  · obtain ⟨J, rfl⟩ := p.st
    exact ⟨J ++ [.lst ((qs ++ [Tr.fk (tcost a + tcost b + g) a b]).map trW)], by rw [List.append_assoc]⟩
  · obtain ⟨J, rfl⟩ := p.st
    rw [List.length_append]; omega
  · intro t ht
    rcases List.mem_append.mp ht with z | z
    · exact p.ok t (List.mem_append_left _ z)
    · rw [List.mem_singleton.mp z]
      exact (p.ok a (by simp)).join (p.ok b (by simp)) hM h1 h2
  · rw [pileN_end] at few ⊢
    have e1 : pileN [a, b] = a.leaves + b.leaves := by simp [pileN]
    have e2 : pileN [Tr.fk (tcost a + tcost b + g) a b] = a.leaves + b.leaves := by simp [pileN, Tr.leaves]
    omega
theorem Pile.le {h h' : Hs} {i : Nat} {M : Int} {n m : Nat} {ts : List Tr} (p : Pile h h' i M n ts) (hm : n ≤ m) : Pile h h' i M m ts := ⟨p.st, p.at_, p.ge, p.ok, Nat.le_trans p.few hm⟩
theorem Pile.push {h h' : Hs} {i : Nat} {M : Int} {n : Nat} {ts : List Tr} (p : Pile h h' i M n ts) (hn : n ≤ 100) {c : Int} (h1 : -M ≤ c) (h2 : c ≤ M) : mAppend (.ref i) [trW (.en c)] h' = .ok .non (h'.set i (.lst ((ts ++ [Tr.en c]).map trW))) ∧ Pile h (h'.set i (.lst ((ts ++ [Tr.en c]).map trW))) i M (n + 1) (ts ++ [Tr.en c]) := by
  have few := p.few
  have ln := pileN_len ts
  have ge := p.ge
  have il := (List.getElem?_eq_some_iff.mp p.at_).1
  refine ⟨?_, ?_, ?_, ge, ?_, ?_⟩
  · rw [mApp_at p.at_ (by rw [List.length_map]; unfold bigL; omega), List.map_append]
    rfl
  · obtain ⟨J, rfl⟩ := p.st
    exact ⟨_, List.set_append_right _ _ ge⟩
  · rw [List.getElem?_set, if_pos rfl, if_pos il]
  · intro t ht
    rcases List.mem_append.mp ht with z | z
    · exact p.ok t z
    · rw [List.mem_singleton.mp z]
      refine ⟨Nat.zero_lt_one, ?_⟩
      show -((2 * ((1 : Nat) : Int) - 1) * M) ≤ c ∧ c ≤ (2 * ((1 : Nat) : Int) - 1) * M
      have : (2 * ((1 : Nat) : Int) - 1) * M = M := by omega
      omega
  · rw [pileN_end]
    have : pileN [Tr.en c] = 1 := by simp [pileN, Tr.leaves]
    omega
theorem mul_bd {a s k : Int} (hs : 0 ≤ s) (h1 : -k ≤ a) (h2 : a ≤ k) : -(k * s) ≤ a * s ∧ a * s ≤ k * s := by
  have x := Int.mul_le_mul_of_nonneg_right h2 hs
  have y := Int.mul_le_mul_of_nonneg_right h1 hs
  rw [Int.neg_mul] at y
  exact ⟨y, x⟩
theorem tree2_e (cs : List Int) (hc : cs.length ≤ 20) (s : Int) (hs : 0 < s ∧ s < 2 ^ 70) (h : Hs) : ∃ t : Tr, t.leaves ≤ 20 ∧ TOk (50 * s) t ∧ f__law_tree [.fl (cs.map W.int), .int s] h = .ok (trW t) h := by
  rw [f__law_tree_e]
  unfold b__law_tree
  have m4 : ∀ (z : Int) (h : Hs), oMod (.int z) (.int 4) h = .ok (.int (z % 4)) h := fun _ _ => oModP (by omega)
  have m41 : ∀ (z : Int) (h : Hs), oMod (.int z) (.int 41) h = .ok (.int (z % 41)) h := fun _ _ => oModP (by omega)
  have m29 : ∀ (z : Int) (h : Hs), oMod (.int z) (.int 29) h = .ok (.int (z % 29)) h := fun _ _ => oModP (by omega)
  have d4 : ∀ (z : Int) (h : Hs), oDiv (.int z) (.int 4) h = .ok (.int (z / 4)) h := fun _ _ => oDivS (by omega) (by omega)
  have ms : ∀ (z : Int) (h : Hs), z.natAbs < 2 ^ 64 → oMul (.int z) (.int s) h = .ok (.int (z * s)) h := fun z h hz => oMul_i (mulOK_l hz)
  -- cell by cell
  obtain ⟨ρ', h', e, i, ts, e3, p, rfl⟩ := forL_all (g := [(.fl (cs.map W.int), cs.map W.int)]) (tg := .n 3) (b := L1__law_tree) (fun k ρ h' => ∃ (i : Nat) (ts : List Tr) (e3 : Option W), Pile h h' i (50 * s) k ts ∧ ρ = [some (.fl (cs.map W.int)), some (.int s), some (.ref i), e3])
    (cs.map W.int) [some (.fl (cs.map W.int)), some (.int s), some (.ref h.length), none] (h ++ [.lst []]) ⟨h.length, [], none, ⟨⟨_, rfl⟩, by simp, Nat.le_refl _, by simp, Nat.zero_le _⟩, rfl⟩ (fun _ _ _ _ => stays_fl) (by
    rintro k w ρ h' hw ⟨i, ts, e3, p, rfl⟩
    rw [List.getElem?_map] at hw
    obtain ⟨c, hc2, rfl⟩ := Option.map_eq_some_iff.mp hw
    have hk : k < cs.length := (List.getElem?_eq_some_iff.mp hc2).1
    generalize cs.map W.int = CW at *
    refine ⟨[some (.fl CW), some (.int s), some (.ref i), some (.int c)], rfl, .inl ?_⟩
    have b1 := Int.emod_nonneg (c / 4) (show (41 : Int) ≠ 0 by omega)
    have b2 := Int.emod_lt_of_pos (c / 4) (show (0 : Int) < 41 by omega)
    have b3 := Int.emod_nonneg (c / 4) (show (29 : Int) ≠ 0 by omega)
    have b4 := Int.emod_lt_of_pos (c / 4) (show (0 : Int) < 29 by omega)
    have v1 := mul_bd (a := c / 4 % 41 - 5) (s := s) (k := 50) (by omega) (by omega) (by omega)
    have v2 := mul_bd (a := c / 4 % 29 - 3) (s := s) (k := 50) (by omega) (by omega) (by omega)
    have ml1 := fun h => ms (c / 4 % 41 - 5) h (by omega)
    have ml2 := fun h => ms (c / 4 % 29 - 3) h (by omega)
    have le : bLen [.ref i] h' = .ok (.int (ts.length : Nat)) h' := by rw [bLen_ref p.at_, List.length_map]
    have kd := kd_at p.at_
    by_cases br : c % 4 < 2 ∨ ts.length < 2
    · obtain ⟨q1, q2⟩ := p.push (by omega) v1.1 v1.2
      have q1 : mAppend (.ref i) [.tup [.str [101, 110, 100], .int ((c / 4 % 41 - 5) * s)]] h' = _ := q1
      refine ⟨[some (.fl CW), some (.int s), some (.ref i), some (.int c)], _, ?_, i, _, _, q2, rfl⟩
      unfold L1__law_tree
      by_cases b1 : c % 4 < 2
      · simp only [sSeq_t, then_nx, then_ret, then_bk, then_ct, then_exc, sAsg_e, sIf_e, sRet_e, sRetN_e, sExp_e, sNx_e, sBrk_e, sCnt_e, sRaise_e, sFor_e, onR_ok, onR_exc, onO_some, run_n, run_t, runs_nil, runs_cons, Option.bind_some, dV_0, dV_1, dV_2, dV_3, dV_4, dV_5, dV_6, dV_7, dV_8, dV_9, dV_10, dV_11, dV_12, dV_13, dV_14, dV_15, dV_16, dC_e, dBin_e, dUn_e, dAnd_e, dOr_e, dNot_e, tVal_e, tAnd_e, tOr_e, tNot_e, dIf_e, dCall_e, aNil_e, aCons_e, dTup_e, Res.bind_ok, Res.bind_exc, asB_b, oAdd_i, oSub_i, oLt_i, oLe_i, oGt_i, oGe_i, oNeg_i, oEq_d, oNe_d, oEq_s, oNe_s, oAddI_i, bLen_fl, bLen_tup, bMax2_i, bMin2_i, List.length_cons, List.length_nil, List.length_map, Nat.zero_add, Nat.reduceAdd, Nat.reduceLT, big_lit0, big_lit1, big_lit2, big_lit3, big_lit4, if_true, if_false, List.set_cons_zero, List.set_cons_succ, decide_true, decide_false, Bool.not_true, Bool.not_false, Bool.false_eq_true, Bool.true_eq_false, decide_eq_true_eq, endF_ret, endF_nx, endF_exc, pAt_int, pNo_e, dSl_e, newL_e, cast0, cast1, cast2, cast3, cast4, cast5, m4, b1, dMeth_e, kd, d4, m41, ml1, q1]
      · have b2 : ((ts.length : Nat) : Int) < 2 := by omega
        simp only [sSeq_t, then_nx, then_ret, then_bk, then_ct, then_exc, sAsg_e, sIf_e, sRet_e, sRetN_e, sExp_e, sNx_e, sBrk_e, sCnt_e, sRaise_e, sFor_e, onR_ok, onR_exc, onO_some, run_n, run_t, runs_nil, runs_cons, Option.bind_some, dV_0, dV_1, dV_2, dV_3, dV_4, dV_5, dV_6, dV_7, dV_8, dV_9, dV_10, dV_11, dV_12, dV_13, dV_14, dV_15, dV_16, dC_e, dBin_e, dUn_e, dAnd_e, dOr_e, dNot_e, tVal_e, tAnd_e, tOr_e, tNot_e, dIf_e, dCall_e, aNil_e, aCons_e, dTup_e, Res.bind_ok, Res.bind_exc, asB_b, oAdd_i, oSub_i, oLt_i, oLe_i, oGt_i, oGe_i, oNeg_i, oEq_d, oNe_d, oEq_s, oNe_s, oAddI_i, bLen_fl, bLen_tup, bMax2_i, bMin2_i, List.length_cons, List.length_nil, List.length_map, Nat.zero_add, Nat.reduceAdd, Nat.reduceLT, big_lit0, big_lit1, big_lit2, big_lit3, big_lit4, if_true, if_false, List.set_cons_zero, List.set_cons_succ, decide_true, decide_false, Bool.not_true, Bool.not_false, Bool.false_eq_true, Bool.true_eq_false, decide_eq_true_eq, endF_ret, endF_nx, endF_exc, pAt_int, pNo_e, dSl_e, newL_e, cast0, cast1, cast2, cast3, cast4, cast5, m4, b1, le, b2, dMeth_e, kd, d4, m41, ml1, q1]
    · have n1 : ¬ c % 4 < 2 := fun z => br (.inl z)
      have n2 : ¬ ((ts.length : Nat) : Int) < 2 := fun z => br (.inr (by omega))
      obtain ⟨qs, a, b, rfl⟩ := two_last' ts (by omega)
      obtain ⟨q1, q2⟩ := p.join (by omega) (by omega) v2.1 v2.2
      refine ⟨[some (.fl CW), some (.int s), some (.ref h'.length), some (.int c)], _, ?_, _, _, _, q2.le (by omega), rfl⟩
      unfold L1__law_tree
      simp only [sSeq_t, then_nx, then_ret, then_bk, then_ct, then_exc, sAsg_e, sIf_e, sRet_e, sRetN_e, sExp_e, sNx_e, sBrk_e, sCnt_e, sRaise_e, sFor_e, onR_ok, onR_exc, onO_some, run_n, run_t, runs_nil, runs_cons, Option.bind_some, dV_0, dV_1, dV_2, dV_3, dV_4, dV_5, dV_6, dV_7, dV_8, dV_9, dV_10, dV_11, dV_12, dV_13, dV_14, dV_15, dV_16, dC_e, dBin_e, dUn_e, dAnd_e, dOr_e, dNot_e, tVal_e, tAnd_e, tOr_e, tNot_e, dIf_e, dCall_e, aNil_e, aCons_e, dTup_e, Res.bind_ok, Res.bind_exc, asB_b, oAdd_i, oSub_i, oLt_i, oLe_i, oGt_i, oGe_i, oNeg_i, oEq_d, oNe_d, oEq_s, oNe_s, oAddI_i, bLen_fl, bLen_tup, bMax2_i, bMin2_i, List.length_cons, List.length_nil, List.length_map, Nat.zero_add, Nat.reduceAdd, Nat.reduceLT, big_lit0, big_lit1, big_lit2, big_lit3, big_lit4, if_true, if_false, List.set_cons_zero, List.set_cons_succ, decide_true, decide_false, Bool.not_true, Bool.not_false, Bool.false_eq_true, Bool.true_eq_false, decide_eq_true_eq, endF_ret, endF_nx, endF_exc, pAt_int, pNo_e, dSl_e, newL_e, cast0, cast1, cast2, cast3, cast4, cast5, m4, n1, le, n2, d4, m29, ml2, q1])
  rw [List.length_map] at p
  rw [seq_nx (ρ1 := [some (.fl (cs.map W.int)), some (.int s), some (.ref h.length), none]) (h1 := h ++ [.lst []]) (by simp only [sSeq_t, then_nx, then_ret, then_bk, then_ct, then_exc, sAsg_e, sIf_e, sRet_e, sRetN_e, sExp_e, sNx_e, sBrk_e, sCnt_e, sRaise_e, sFor_e, onR_ok, onR_exc, onO_some, run_n, run_t, runs_nil, runs_cons, Option.bind_some, dV_0, dV_1, dV_2, dV_3, dV_4, dV_5, dV_6, dV_7, dV_8, dV_9, dV_10, dV_11, dV_12, dV_13, dV_14, dV_15, dV_16, dC_e, dBin_e, dUn_e, dAnd_e, dOr_e, dNot_e, tVal_e, tAnd_e, tOr_e, tNot_e, dIf_e, dCall_e, aNil_e, aCons_e, dTup_e, Res.bind_ok, Res.bind_exc, asB_b, oAdd_i, oSub_i, oLt_i, oLe_i, oGt_i, oGe_i, oNeg_i, oEq_d, oNe_d, oEq_s, oNe_s, oAddI_i, bLen_fl, bLen_tup, bMax2_i, bMin2_i, List.length_cons, List.length_nil, List.length_map, Nat.zero_add, Nat.reduceAdd, Nat.reduceLT, big_lit0, big_lit1, big_lit2, big_lit3, big_lit4, if_true, if_false, List.set_cons_zero, List.set_cons_succ, decide_true, decide_false, Bool.not_true, Bool.not_false, Bool.false_eq_true, Bool.true_eq_false, decide_eq_true_eq, endF_ret, endF_nx, endF_exc, pAt_int, pNo_e, dSl_e, newL_e, cast0, cast1, cast2, cast3, cast4, cast5, dLst_e]; try rfl)]
  rw [seq_nx (by rw [sFor_e, iAny_fl (h1 := h ++ [.lst []]) rfl, onR_ok]; exact e)]
  have cs0 : ∀ h, bLen [.fl (cs.map W.int)] h = .ok (.int (cs.length : Nat)) h := fun h => by simp [bLen]
  -- none drawn: one end
  obtain ⟨h2, ts2, p2, ne2, e2⟩ : ∃ (h2 : Hs) (ts2 : List Tr), Pile h h2 i (50 * s) (max cs.length 1) ts2 ∧ ts2 ≠ [] ∧ sIf (tVal (dBin oEq (dCall bLen (aCons (dV 2) (aNil))) (dC (.int 0)))) (sExp (dMeth .lst mAppend (dV 2) (aCons (dTup (aCons (dC (.str [101, 110, 100])) (aCons (dV 1) (aNil)))) (aNil)))) (sNx) [some (.fl (cs.map W.int)), some (.int s), some (.ref i), e3] h' = .nx [some (.fl (cs.map W.int)), some (.int s), some (.ref i), e3] h2 := by
    have le : bLen [.ref i] h' = .ok (.int (ts.length : Nat)) h' := by rw [bLen_ref p.at_, List.length_map]
    have kd := kd_at p.at_
    generalize cs.map W.int = CW at *
    by_cases z : ts = []
    · obtain ⟨q1, q2⟩ := p.push (by omega) (c := s) (by omega) (by omega)
      have q1 : mAppend (.ref i) [.tup [.str [101, 110, 100], .int s]] h' = _ := q1
      have few := q2.few
      refine ⟨_, _, ⟨q2.st, q2.at_, q2.ge, q2.ok, ?_⟩, by simp, ?_⟩
      · rw [z]; simp only [List.nil_append, pileN, List.map_cons, List.map_nil, List.sum_cons, List.sum_nil, Tr.leaves]; omega
      · have z2 : ((ts.length : Nat) : Int) = 0 := by rw [z]; rfl
        simp only [sSeq_t, then_nx, then_ret, then_bk, then_ct, then_exc, sAsg_e, sIf_e, sRet_e, sRetN_e, sExp_e, sNx_e, sBrk_e, sCnt_e, sRaise_e, sFor_e, onR_ok, onR_exc, onO_some, run_n, run_t, runs_nil, runs_cons, Option.bind_some, dV_0, dV_1, dV_2, dV_3, dV_4, dV_5, dV_6, dV_7, dV_8, dV_9, dV_10, dV_11, dV_12, dV_13, dV_14, dV_15, dV_16, dC_e, dBin_e, dUn_e, dAnd_e, dOr_e, dNot_e, tVal_e, tAnd_e, tOr_e, tNot_e, dIf_e, dCall_e, aNil_e, aCons_e, dTup_e, Res.bind_ok, Res.bind_exc, asB_b, oAdd_i, oSub_i, oLt_i, oLe_i, oGt_i, oGe_i, oNeg_i, oEq_d, oNe_d, oEq_s, oNe_s, oAddI_i, bLen_fl, bLen_tup, bMax2_i, bMin2_i, List.length_cons, List.length_nil, List.length_map, Nat.zero_add, Nat.reduceAdd, Nat.reduceLT, big_lit0, big_lit1, big_lit2, big_lit3, big_lit4, if_true, if_false, List.set_cons_zero, List.set_cons_succ, decide_true, decide_false, Bool.not_true, Bool.not_false, Bool.false_eq_true, Bool.true_eq_false, decide_eq_true_eq, endF_ret, endF_nx, endF_exc, pAt_int, pNo_e, dSl_e, newL_e, cast0, cast1, cast2, cast3, cast4, cast5, le, z2, dMeth_e, kd, q1]
    · refine ⟨h', ts, p.le (by omega), z, ?_⟩
      have z2 : ¬ ((ts.length : Nat) : Int) = 0 := by
        have := List.length_pos_iff.mpr z
        omega
      simp only [sSeq_t, then_nx, then_ret, then_bk, then_ct, then_exc, sAsg_e, sIf_e, sRet_e, sRetN_e, sExp_e, sNx_e, sBrk_e, sCnt_e, sRaise_e, sFor_e, onR_ok, onR_exc, onO_some, run_n, run_t, runs_nil, runs_cons, Option.bind_some, dV_0, dV_1, dV_2, dV_3, dV_4, dV_5, dV_6, dV_7, dV_8, dV_9, dV_10, dV_11, dV_12, dV_13, dV_14, dV_15, dV_16, dC_e, dBin_e, dUn_e, dAnd_e, dOr_e, dNot_e, tVal_e, tAnd_e, tOr_e, tNot_e, dIf_e, dCall_e, aNil_e, aCons_e, dTup_e, Res.bind_ok, Res.bind_exc, asB_b, oAdd_i, oSub_i, oLt_i, oLe_i, oGt_i, oGe_i, oNeg_i, oEq_d, oNe_d, oEq_s, oNe_s, oAddI_i, bLen_fl, bLen_tup, bMax2_i, bMin2_i, List.length_cons, List.length_nil, List.length_map, Nat.zero_add, Nat.reduceAdd, Nat.reduceLT, big_lit0, big_lit1, big_lit2, big_lit3, big_lit4, if_true, if_false, List.set_cons_zero, List.set_cons_succ, decide_true, decide_false, Bool.not_true, Bool.not_false, Bool.false_eq_true, Bool.true_eq_false, decide_eq_true_eq, endF_ret, endF_nx, endF_exc, pAt_int, pNo_e, dSl_e, newL_e, cast0, cast1, cast2, cast3, cast4, cast5, le, z2]
  rw [seq_nx e2]
  -- all are joined
  obtain ⟨⟨i3, ts3⟩, ρ3, h3, e3', ⟨p3, ne3, rfl⟩, hend⟩ := while_ex (t := tVal (dBin oGt (dCall bLen (aCons (dV 2) (aNil))) (dC (.int 1)))) (b := L2__law_tree)
    (fun (x : Nat × List Tr) ρ h' => Pile h h' x.1 (50 * s) (max cs.length 1) x.2 ∧ x.2 ≠ [] ∧ ρ = [some (.fl (cs.map W.int)), some (.int s), some (.ref x.1), e3])
    (fun x => x.2.length) (fun x => decide (1 < x.2.length)) (by
      rintro ⟨j, us⟩ ρ h' ⟨p, ne, rfl⟩
      have le : bLen [.ref j] h' = .ok (.int (us.length : Nat)) h' := by rw [bLen_ref p.at_, List.length_map]
      generalize cs.map W.int = CW at *
      simp only [sSeq_t, then_nx, then_ret, then_bk, then_ct, then_exc, sAsg_e, sIf_e, sRet_e, sRetN_e, sExp_e, sNx_e, sBrk_e, sCnt_e, sRaise_e, sFor_e, onR_ok, onR_exc, onO_some, run_n, run_t, runs_nil, runs_cons, Option.bind_some, dV_0, dV_1, dV_2, dV_3, dV_4, dV_5, dV_6, dV_7, dV_8, dV_9, dV_10, dV_11, dV_12, dV_13, dV_14, dV_15, dV_16, dC_e, dBin_e, dUn_e, dAnd_e, dOr_e, dNot_e, tVal_e, tAnd_e, tOr_e, tNot_e, dIf_e, dCall_e, aNil_e, aCons_e, dTup_e, Res.bind_ok, Res.bind_exc, asB_b, oAdd_i, oSub_i, oLt_i, oLe_i, oGt_i, oGe_i, oNeg_i, oEq_d, oNe_d, oEq_s, oNe_s, oAddI_i, bLen_fl, bLen_tup, bMax2_i, bMin2_i, List.length_cons, List.length_nil, List.length_map, Nat.zero_add, Nat.reduceAdd, Nat.reduceLT, big_lit0, big_lit1, big_lit2, big_lit3, big_lit4, if_true, if_false, List.set_cons_zero, List.set_cons_succ, decide_true, decide_false, Bool.not_true, Bool.not_false, Bool.false_eq_true, Bool.true_eq_false, decide_eq_true_eq, endF_ret, endF_nx, endF_exc, pAt_int, pNo_e, dSl_e, newL_e, cast0, cast1, cast2, cast3, cast4, cast5, le]
      congr 1
      exact decide_eq_decide.mpr (by omega)) (by
      rintro ⟨j, us⟩ ρ h' ⟨p, ne, rfl⟩ hc
      rw [decide_eq_true_eq] at hc
      have le : bLen [.ref j] h' = .ok (.int (us.length : Nat)) h' := by rw [bLen_ref p.at_, List.length_map]
      have ul := pileN_len us
      have fu := p.few
      dsimp only at p fu ul le hc
      have v := mul_bd (a := (us.length : Int)) (s := s) (k := 50) (by omega) (by omega) (by omega)
      have ml := fun h => ms (us.length : Int) h (by omega)
      obtain ⟨n, hn⟩ : ∃ n : Int, n = us.length := ⟨_, rfl⟩
      rw [← hn] at v ml le
      obtain ⟨qs, a, b, rfl⟩ := two_last' us hc
      obtain ⟨q1, q2⟩ := p.join (by omega) (by omega) v.1 v.2
      generalize cs.map W.int = CW at *
      refine ⟨(_, _), _, _, .inl ?_, ⟨q2, by simp, rfl⟩, by simp⟩
      unfold L2__law_tree
      simp only [sSeq_t, then_nx, then_ret, then_bk, then_ct, then_exc, sAsg_e, sIf_e, sRet_e, sRetN_e, sExp_e, sNx_e, sBrk_e, sCnt_e, sRaise_e, sFor_e, onR_ok, onR_exc, onO_some, run_n, run_t, runs_nil, runs_cons, Option.bind_some, dV_0, dV_1, dV_2, dV_3, dV_4, dV_5, dV_6, dV_7, dV_8, dV_9, dV_10, dV_11, dV_12, dV_13, dV_14, dV_15, dV_16, dC_e, dBin_e, dUn_e, dAnd_e, dOr_e, dNot_e, tVal_e, tAnd_e, tOr_e, tNot_e, dIf_e, dCall_e, aNil_e, aCons_e, dTup_e, Res.bind_ok, Res.bind_exc, asB_b, oAdd_i, oSub_i, oLt_i, oLe_i, oGt_i, oGe_i, oNeg_i, oEq_d, oNe_d, oEq_s, oNe_s, oAddI_i, bLen_fl, bLen_tup, bMax2_i, bMin2_i, List.length_cons, List.length_nil, List.length_map, Nat.zero_add, Nat.reduceAdd, Nat.reduceLT, big_lit0, big_lit1, big_lit2, big_lit3, big_lit4, if_true, if_false, List.set_cons_zero, List.set_cons_succ, decide_true, decide_false, Bool.not_true, Bool.not_false, Bool.false_eq_true, Bool.true_eq_false, decide_eq_true_eq, endF_ret, endF_nx, endF_exc, pAt_int, pNo_e, dSl_e, newL_e, cast0, cast1, cast2, cast3, cast4, cast5, le, ml, q1])
    (i, ts2) [some (.fl (cs.map W.int)), some (.int s), some (.ref i), e3] h2 ⟨p2, ne2, rfl⟩ (by
      have := pileN_len ts2
      have := p2.few
      exact Nat.lt_of_lt_of_le (m := 2 ^ 5) (by dsimp only; omega) (Nat.pow_le_pow_right (by omega) (by omega)))
  rw [seq_nx e3']
  dsimp only at p3 ne3 hend
  obtain ⟨t, rfl⟩ : ∃ t, ts3 = [t] := by
    have : ¬ 1 < ts3.length := by simpa using hend
    match ts3, ne3 with
    | [t], _ => exact ⟨t, rfl⟩
    | _ :: _ :: _, _ => simp at this
  have ot := p3.ok t (by simp)
  have lt1 : t.leaves ≤ max cs.length 1 := by have := p3.few; simpa [pileN] using this
  have lt : t.leaves ≤ 20 := by omega
  have p3 := p3.le (m := 20) (by omega)
  have g0 : ∀ {h' : Hs} {i : Nat} {t : Tr}, Pile h h' i (50 * s) 20 [t] → oIx (.ref i) (.int 0) h' = .ok (trW t) h' := fun p => oIx_ref (k := 0) p.at_ rfl
  have fin : ∀ {h' : Hs} {i : Nat} {t : Tr}, Pile h h' i (50 * s) 20 [t] → gc h (endF (sRet (dBin oIx (dV 2) (dC (.int 0))) [some (.fl (cs.map W.int)), some (.int s), some (.ref i), e3] h')) = .ok (trW t) h := fun {h' i t} p => by
    have g := g0 p
    generalize cs.map W.int = CW at *
    simp only [sSeq_t, then_nx, then_ret, then_bk, then_ct, then_exc, sAsg_e, sIf_e, sRet_e, sRetN_e, sExp_e, sNx_e, sBrk_e, sCnt_e, sRaise_e, sFor_e, onR_ok, onR_exc, onO_some, run_n, run_t, runs_nil, runs_cons, Option.bind_some, dV_0, dV_1, dV_2, dV_3, dV_4, dV_5, dV_6, dV_7, dV_8, dV_9, dV_10, dV_11, dV_12, dV_13, dV_14, dV_15, dV_16, dC_e, dBin_e, dUn_e, dAnd_e, dOr_e, dNot_e, tVal_e, tAnd_e, tOr_e, tNot_e, dIf_e, dCall_e, aNil_e, aCons_e, dTup_e, Res.bind_ok, Res.bind_exc, asB_b, oAdd_i, oSub_i, oLt_i, oLe_i, oGt_i, oGe_i, oNeg_i, oEq_d, oNe_d, oEq_s, oNe_s, oAddI_i, bLen_fl, bLen_tup, bMax2_i, bMin2_i, List.length_cons, List.length_nil, List.length_map, Nat.zero_add, Nat.reduceAdd, Nat.reduceLT, big_lit0, big_lit1, big_lit2, big_lit3, big_lit4, if_true, if_false, List.set_cons_zero, List.set_cons_succ, decide_true, decide_false, Bool.not_true, Bool.not_false, Bool.false_eq_true, Bool.true_eq_false, decide_eq_true_eq, endF_ret, endF_nx, endF_exc, pAt_int, pNo_e, dSl_e, newL_e, cast0, cast1, cast2, cast3, cast4, cast5, g]
    obtain ⟨J, rfl⟩ := p.st
    exact gc_pure (trW_pure t)
  by_cases k1 : 0 < cs.length ∧ cs.length < 11
  · obtain ⟨c0, cs', hcs⟩ : ∃ c0 cs', cs = c0 :: cs' := by
      cases cs with
      | nil => simp at k1
      | cons a b => exact ⟨a, b, rfl⟩
    have c0i : ∀ h, oIx (.fl (cs.map W.int)) (.int 0) h = .ok (.int c0) h := fun h => by rw [hcs]; exact oIx_f0
    have m3 : ∀ h, oMod (.int c0) (.int 3) h = .ok (.int (c0 % 3)) h := fun _ => oModP (by omega)
    have d3 : ∀ h, oDiv (.int c0) (.int 3) h = .ok (.int (c0 / 3)) h := fun _ => oDivS (by omega) (by omega)
    have m40 : ∀ h, oMod (.int (c0 / 3)) (.int 40) h = .ok (.int (c0 / 3 % 40)) h := fun _ => oModP (by omega)
    have ch : ∀ h, dChain oLt oLt (dC (.int 0)) (dCall bLen (aCons (dV 0) (aNil))) (dC (.int 11)) [some (.fl (cs.map W.int)), some (.int s), some (.ref i3), e3] h = .ok (.bl true) h := fun h => by
      unfold dChain
      have a1 : (0 : Int) < (cs.length : Nat) := by omega
      have a2 : ((cs.length : Nat) : Int) < 11 := by omega
      simp only [dC_e, Res.bind_ok, dCall_e, aCons_e, dV_0, aNil_e, cs0, oLt_i, decide_eq_true a1, decide_eq_true a2]
    by_cases k2 : c0 % 3 = 1
    · have b1 := Int.emod_nonneg (c0 / 3) (show (40 : Int) ≠ 0 by omega)
      have b2 := Int.emod_lt_of_pos (c0 / 3) (show (0 : Int) < 40 by omega)
      have v := mul_bd (a := c0 / 3 % 40) (s := s) (k := 50) (by omega) (by omega) (by omega)
      have ml := fun h => ms (c0 / 3 % 40) h (by omega)
      have lt2 : t.leaves ≤ 10 := by omega
      have jf := joined_fl [] t t (c0 / 3 % 40 * s) h3 (by simp)
      simp only [List.nil_append] at jf
      have jo := ot.join ot (by omega) v.1 v.2
      obtain ⟨J, hJ⟩ := p3.st
      refine ⟨.fk (tcost t + tcost t + c0 / 3 % 40 * s) t t, by show t.leaves + t.leaves ≤ 20; omega, jo, ?_⟩
      have lz : dGz (dLst (aCons (dBin oIx (dV 2) (dC (.int 0))) (aCons (dBin oIx (dV 2) (dC (.int 0))) (aNil)))) [some (.fl (cs.map W.int)), some (.int s), some (.ref i3), e3] h3 = .ok (.fl ([t, t].map trW)) h3 := lst_gz (by
        have g := g0 p3
        generalize cs.map W.int = CW at *
        simp only [sSeq_t, then_nx, then_ret, then_bk, then_ct, then_exc, sAsg_e, sIf_e, sRet_e, sRetN_e, sExp_e, sNx_e, sBrk_e, sCnt_e, sRaise_e, sFor_e, onR_ok, onR_exc, onO_some, run_n, run_t, runs_nil, runs_cons, Option.bind_some, dV_0, dV_1, dV_2, dV_3, dV_4, dV_5, dV_6, dV_7, dV_8, dV_9, dV_10, dV_11, dV_12, dV_13, dV_14, dV_15, dV_16, dC_e, dBin_e, dUn_e, dAnd_e, dOr_e, dNot_e, tVal_e, tAnd_e, tOr_e, tNot_e, dIf_e, dCall_e, aNil_e, aCons_e, dTup_e, Res.bind_ok, Res.bind_exc, asB_b, oAdd_i, oSub_i, oLt_i, oLe_i, oGt_i, oGe_i, oNeg_i, oEq_d, oNe_d, oEq_s, oNe_s, oAddI_i, bLen_fl, bLen_tup, bMax2_i, bMin2_i, List.length_cons, List.length_nil, List.length_map, Nat.zero_add, Nat.reduceAdd, Nat.reduceLT, big_lit0, big_lit1, big_lit2, big_lit3, big_lit4, if_true, if_false, List.set_cons_zero, List.set_cons_succ, decide_true, decide_false, Bool.not_true, Bool.not_false, Bool.false_eq_true, Bool.true_eq_false, decide_eq_true_eq, endF_ret, endF_nx, endF_exc, pAt_int, pNo_e, dSl_e, newL_e, cast0, cast1, cast2, cast3, cast4, cast5, g]; rfl) (by simp) (pures_map fun x _ => trW_pure x)
      rw [seq_nx (ρ1 := [some (.fl (cs.map W.int)), some (.int s), some (.ref h3.length), e3]) (h1 := h3 ++ [.lst (([Tr.fk (tcost t + tcost t + c0 / 3 % 40 * s) t t] : List Tr).map trW)]) (by
        generalize cs.map W.int = CW at *
        simp only [sSeq_t, then_nx, then_ret, then_bk, then_ct, then_exc, sAsg_e, sIf_e, sRet_e, sRetN_e, sExp_e, sNx_e, sBrk_e, sCnt_e, sRaise_e, sFor_e, onR_ok, onR_exc, onO_some, run_n, run_t, runs_nil, runs_cons, Option.bind_some, dV_0, dV_1, dV_2, dV_3, dV_4, dV_5, dV_6, dV_7, dV_8, dV_9, dV_10, dV_11, dV_12, dV_13, dV_14, dV_15, dV_16, dC_e, dBin_e, dUn_e, dAnd_e, dOr_e, dNot_e, tVal_e, tAnd_e, tOr_e, tNot_e, dIf_e, dCall_e, aNil_e, aCons_e, dTup_e, Res.bind_ok, Res.bind_exc, asB_b, oAdd_i, oSub_i, oLt_i, oLe_i, oGt_i, oGe_i, oNeg_i, oEq_d, oNe_d, oEq_s, oNe_s, oAddI_i, bLen_fl, bLen_tup, bMax2_i, bMin2_i, List.length_cons, List.length_nil, List.length_map, Nat.zero_add, Nat.reduceAdd, Nat.reduceLT, big_lit0, big_lit1, big_lit2, big_lit3, big_lit4, if_true, if_false, List.set_cons_zero, List.set_cons_succ, decide_true, decide_false, Bool.not_true, Bool.not_false, Bool.false_eq_true, Bool.true_eq_false, decide_eq_true_eq, endF_ret, endF_nx, endF_exc, pAt_int, pNo_e, dSl_e, newL_e, cast0, cast1, cast2, cast3, cast4, cast5, ch, c0i, m3, k2, lz, d3, m40, ml, jf])]
      refine fin ⟨⟨J ++ _, by rw [hJ, List.append_assoc]⟩, by simp, by rw [hJ, List.length_append]; omega, ?_, ?_⟩
      · intro x hx; rw [List.mem_singleton.mp hx]; exact jo
      · show pileN [_] ≤ 20
        simp [pileN, Tr.leaves]; omega
    · refine ⟨t, lt, ot, ?_⟩
      rw [seq_nx (ρ1 := [some (.fl (cs.map W.int)), some (.int s), some (.ref i3), e3]) (h1 := h3) (by
        generalize cs.map W.int = CW at *
        simp only [sSeq_t, then_nx, then_ret, then_bk, then_ct, then_exc, sAsg_e, sIf_e, sRet_e, sRetN_e, sExp_e, sNx_e, sBrk_e, sCnt_e, sRaise_e, sFor_e, onR_ok, onR_exc, onO_some, run_n, run_t, runs_nil, runs_cons, Option.bind_some, dV_0, dV_1, dV_2, dV_3, dV_4, dV_5, dV_6, dV_7, dV_8, dV_9, dV_10, dV_11, dV_12, dV_13, dV_14, dV_15, dV_16, dC_e, dBin_e, dUn_e, dAnd_e, dOr_e, dNot_e, tVal_e, tAnd_e, tOr_e, tNot_e, dIf_e, dCall_e, aNil_e, aCons_e, dTup_e, Res.bind_ok, Res.bind_exc, asB_b, oAdd_i, oSub_i, oLt_i, oLe_i, oGt_i, oGe_i, oNeg_i, oEq_d, oNe_d, oEq_s, oNe_s, oAddI_i, bLen_fl, bLen_tup, bMax2_i, bMin2_i, List.length_cons, List.length_nil, List.length_map, Nat.zero_add, Nat.reduceAdd, Nat.reduceLT, big_lit0, big_lit1, big_lit2, big_lit3, big_lit4, if_true, if_false, List.set_cons_zero, List.set_cons_succ, decide_true, decide_false, Bool.not_true, Bool.not_false, Bool.false_eq_true, Bool.true_eq_false, decide_eq_true_eq, endF_ret, endF_nx, endF_exc, pAt_int, pNo_e, dSl_e, newL_e, cast0, cast1, cast2, cast3, cast4, cast5, ch, c0i, m3, k2])]
      exact fin p3
  · refine ⟨t, lt, ot, ?_⟩
    have ch : ∀ h, dChain oLt oLt (dC (.int 0)) (dCall bLen (aCons (dV 0) (aNil))) (dC (.int 11)) [some (.fl (cs.map W.int)), some (.int s), some (.ref i3), e3] h = .ok (.bl false) h := fun h => by
      unfold dChain
      by_cases a1 : (0 : Int) < (cs.length : Nat)
      · have a2 : ¬ ((cs.length : Nat) : Int) < 11 := fun z => k1 ⟨by omega, by omega⟩
        simp only [dC_e, Res.bind_ok, dCall_e, aCons_e, dV_0, aNil_e, cs0, oLt_i, decide_eq_true a1, decide_eq_false a2]
      · simp only [dC_e, Res.bind_ok, dCall_e, aCons_e, dV_0, aNil_e, cs0, oLt_i, decide_eq_false a1]
    rw [seq_nx (ρ1 := [some (.fl (cs.map W.int)), some (.int s), some (.ref i3), e3]) (h1 := h3) (by
      generalize cs.map W.int = CW at *
      simp only [sSeq_t, then_nx, then_ret, then_bk, then_ct, then_exc, sAsg_e, sIf_e, sRet_e, sRetN_e, sExp_e, sNx_e, sBrk_e, sCnt_e, sRaise_e, sFor_e, onR_ok, onR_exc, onO_some, run_n, run_t, runs_nil, runs_cons, Option.bind_some, dV_0, dV_1, dV_2, dV_3, dV_4, dV_5, dV_6, dV_7, dV_8, dV_9, dV_10, dV_11, dV_12, dV_13, dV_14, dV_15, dV_16, dC_e, dBin_e, dUn_e, dAnd_e, dOr_e, dNot_e, tVal_e, tAnd_e, tOr_e, tNot_e, dIf_e, dCall_e, aNil_e, aCons_e, dTup_e, Res.bind_ok, Res.bind_exc, asB_b, oAdd_i, oSub_i, oLt_i, oLe_i, oGt_i, oGe_i, oNeg_i, oEq_d, oNe_d, oEq_s, oNe_s, oAddI_i, bLen_fl, bLen_tup, bMax2_i, bMin2_i, List.length_cons, List.length_nil, List.length_map, Nat.zero_add, Nat.reduceAdd, Nat.reduceLT, big_lit0, big_lit1, big_lit2, big_lit3, big_lit4, if_true, if_false, List.set_cons_zero, List.set_cons_succ, decide_true, decide_false, Bool.not_true, Bool.not_false, Bool.false_eq_true, Bool.true_eq_false, decide_eq_true_eq, endF_ret, endF_nx, endF_exc, pAt_int, pNo_e, dSl_e, newL_e, cast0, cast1, cast2, cast3, cast4, cast5, ch])]
    exact fin p3
end Law
end PF
namespace PF
namespace Law
/-! ladders: for each number of leaves the least sum -/
/-- a rung: the sum, the places -/
abbrev Rg := Int × List (List Nat)
def Best (t : Tr) (k : Nat) (r : Rg) : Prop := CutS t [] r.2 r.1 ∧ r.2.length = k + 1 ∧ ∀ L s, CutS t [] L s → L.length = k + 1 → r.1 ≤ s
structure Rows (t : Tr) (R : List Rg) : Prop where
  len : R.length = t.leaves
  at_ : ∀ (k : Nat) (r : Rg), R[k]? = some r → Best t k r
def rgW (B : Int) (r : Rg) : W := .tup [rat (Rat.divInt r.1 B), .fl (r.2.map W.str)]
theorem CutS.pre (q : List Nat) : ∀ {t : Tr} {p : List Nat} {L : List (List Nat)} {s : Int}, CutS t p L s → CutS t (q ++ p) (L.map (q ++ ·)) s
  | _, _, _, _, .here t p => .here t (q ++ p)
  | _, p, _, _, .split a b => by
    have a' := CutS.pre q a
    have b' := CutS.pre q b
    rw [← List.append_assoc] at a' b'
    rw [List.map_append]
    exact .split a' b'
theorem CutS.off (q : List Nat) : ∀ {t : Tr} {p : List Nat} {L : List (List Nat)} {s : Int}, CutS t p L s → ∀ p0, p = q ++ p0 → ∃ L0, CutS t p0 L0 s ∧ L = L0.map (q ++ ·)
  | _, _, _, _, .here t p, p0, e => ⟨[p0], .here t p0, by rw [e]; rfl⟩
  | _, p, _, _, .split a b, p0, e => by
    obtain ⟨A, a1, a2⟩ := CutS.off q a (p0 ++ sY) (by rw [e, List.append_assoc])
    obtain ⟨B, b1, b2⟩ := CutS.off q b (p0 ++ sN) (by rw [e, List.append_assoc])
    exact ⟨B ++ A, .split a1 b1, by rw [a2, b2, List.map_append]⟩
theorem CutS.off0 {t : Tr} {p : List Nat} {L : List (List Nat)} {s : Int} (c : CutS t p L s) : ∃ L0, CutS t [] L0 s ∧ L = L0.map (p ++ ·) := c.off p [] (by simp)
theorem divInt_lt {x y c : Int} (hc : 0 < c) : Rat.divInt x c < Rat.divInt y c ↔ x < y := by
  rw [← Rat.not_le, divInt_le hc]
  omega
theorem Best.sz {M : Int} {t : Tr} {k : Nat} {r : Rg} (b : Best t k r) (tc : t.costs (2 ^ 105)) (hl : t.leaves ≤ 100) : r.1.natAbs < 2 ^ 112 := by
  have sz := b.1.sz tc
  have ln := b.1.cut.len
  have : (r.2.length : Int) * 2 ^ 105 ≤ 100 * 2 ^ 105 := Int.mul_le_mul_of_nonneg_right (by omega) (by omega)
  omega
def sumAt (A C : List Rg) (m k : Nat) : Int := (A[k - 1]?.getD (0, [])).1 + (C[m - k - 1]?.getD (0, [])).1
theorem join_best {c : Int} {t u : Tr} {A C : List Rg} (ra : Rows t A) (rc : Rows u C) {m j : Nat} (hm : 2 ≤ m) (h1 : 1 ≤ j) (h2 : j ≤ A.length) (h3 : j < m) (h4 : m - j ≤ C.length) (lst : ∀ k, 1 ≤ k → k ≤ A.length → k < m → m - k ≤ C.length → sumAt A C m j ≤ sumAt A C m k) :
    Best (.fk c t u) (m - 1) (sumAt A C m j, (C[m - j - 1]?.getD (0, [])).2.map (sN ++ ·) ++ (A[j - 1]?.getD (0, [])).2.map (sY ++ ·)) := by
  have ga : ∀ k, 1 ≤ k → k ≤ A.length → Best t (k - 1) (A[k - 1]?.getD (0, [])) := fun k k1 k2 => by
    have hk : k - 1 < A.length := by omega
    rw [List.getElem?_eq_getElem hk]
    exact ra.at_ _ _ (List.getElem?_eq_getElem hk)
  have gc : ∀ k, 1 ≤ k → k ≤ C.length → Best u (k - 1) (C[k - 1]?.getD (0, [])) := fun k k1 k2 => by
    have hk : k - 1 < C.length := by omega
    rw [List.getElem?_eq_getElem hk]
    exact rc.at_ _ _ (List.getElem?_eq_getElem hk)
  obtain ⟨a1, a2, a3⟩ := ga j h1 h2
  obtain ⟨c1, c2, c3⟩ := gc (m - j) (by omega) h4
  refine ⟨?_, ?_, ?_⟩
  · have x := CutS.pre sY a1
    have y := CutS.pre sN c1
    exact .split (p := []) x y
  · dsimp only
    rw [List.length_append, List.length_map, List.length_map, a2, c2]
    omega
  · intro L s cs hL
    cases cs with
    | here => simp at hL; omega
    | split x y =>
      obtain ⟨X, x1, x2⟩ := x.off0
      obtain ⟨Y, y1, y2⟩ := y.off0
      rw [x2, y2, List.length_append, List.length_map, List.length_map] at hL
      have lx := x1.cut.len
      have ly := y1.cut.len
      rw [← ra.len] at lx
      rw [← rc.len] at ly
      have q1 := (ga X.length (by omega) (by omega)).2.2 X _ x1 (by omega)
      have q2 := (gc (m - X.length) (by omega) (by omega)).2.2 Y _ y1 (by omega)
      have q3 := lst X.length (by omega) (by omega) (by omega) (by omega)
      unfold sumAt at q3 ⊢
      dsimp only
      omega
theorem rows_get {t : Tr} {A : List Rg} (B : Int) (ra : Rows t A) (k : Nat) (h1 : 1 ≤ k) (h2 : k ≤ A.length) (h : Hs) : oIx (.fl (A.map (rgW B))) (.int ((k : Int) - 1)) h = .ok (rgW B (A[k - 1]?.getD (0, []))) h := by
  have hk : k - 1 < A.length := by omega
  have e : (k : Int) - 1 = ((k - 1 : Nat) : Int) := by omega
  rw [e, List.getElem?_eq_getElem hk]
  exact oIx_fl (by simp [hk])
theorem bSorted_at {i : Nat} {h : Hs} {ss : List (List Nat)} (e : h[i]? = some (.lst (ss.map W.str))) : bSorted [.ref i] h = newL ((sortS ss).map W.str) h := by
  simp [bSorted, dctOf, lstOf, e, strsOf_map]
theorem pre_gz {it : D} {ρ : Env} {h : Hs} (s : List Nat) (L : List (List Nat)) (i : Nat) (hi : i < ρ.length) (e : it ρ h = .ok (.fl (L.map W.str)) h) (hl : L.length < 1000) (hs : ∀ q, q ∈ L → s.length + q.length < 2000) :
    dGz (dComp (iAny it) (.n i) PF.tYes (dBin oAdd (dC (.str s)) (dV i)) [i]) ρ h = .ok (.fl ((L.map (s ++ ·)).map W.str)) h := by
  have := comp_gm (it := iAny it) (tg := .n i) (e := dBin oAdd (dC (.str s)) (dV i)) (own := [i]) (ρ := ρ) (h := h) W.str (fun q => .str (s ++ q)) L (iAny_fl e) (fun _ => stays_fl) (by unfold bigL; omega) (fun _ _ => rfl) (fun q hq => by
    refine ⟨(wipe ρ [i]).set i (some (.str q)), ?_, fun acc => ?_⟩
    · rw [run_n, if_pos (by simp [wipe, hi])]
    · have g : dV i ((wipe ρ [i]).set i (some (.str q))) (h ++ [.lst acc]) = .ok (.str q) (h ++ [.lst acc]) := by
        unfold dV
        rw [List.getElem?_set, if_pos rfl, if_pos (by simp [wipe, hi])]
      rw [dBin_e, dC_e, Res.bind_ok, g, Res.bind_ok, oAdd_str (by have := hs q hq; unfold bigL; omega)])
  rw [this, List.map_map]
  rfl
theorem join_e {B : Int} (hB : 0 < B ∧ B < 2 ^ 100) {c : Int} {t u : Tr} {A C : List Rg} (ra : Rows t A) (rc : Rows u C) (ht : t.costs (2 ^ 105)) (hu : u.costs (2 ^ 105)) (hl : t.leaves + u.leaves ≤ 100) (hh : t.high < 500) (hh2 : u.high < 500) {m : Nat} (hm : 2 ≤ m) (hm2 : m ≤ A.length + C.length) :
    ∃ r, Best (.fk c t u) (m - 1) r ∧ ∀ h, ∃ c1, f_joined_rung [.fl (A.map (rgW B)), .fl (C.map (rgW B)), .int (m : Int)] h = .ok (.tup [rat (Rat.divInt r.1 B), .ref (h.length + 1)]) (h ++ [c1, .lst (r.2.map W.str)]) := by
  have la := ra.len
  have lc := rc.len
  have pa := t.leaves_pos
  have pc := u.leaves_pos
  obtain ⟨lo, hlo⟩ : ∃ lo : Nat, (lo : Int) = max 1 ((m : Int) - C.length) := ⟨(max 1 ((m : Int) - C.length)).toNat, by omega⟩
  obtain ⟨hi, hhi⟩ : ∃ hi : Nat, (hi : Int) = min (A.length : Int) ((m : Int) - 1) + 1 := ⟨(min (A.length : Int) ((m : Int) - 1) + 1).toNat, by omega⟩
  have bA : ∀ k, 1 ≤ k → k ≤ A.length → Best t (k - 1) (A[k - 1]?.getD (0, [])) := fun k k1 k2 => by
    have hk : k - 1 < A.length := by omega
    rw [List.getElem?_eq_getElem hk]
    exact ra.at_ _ _ (List.getElem?_eq_getElem hk)
  have bC : ∀ k, 1 ≤ k → k ≤ C.length → Best u (k - 1) (C[k - 1]?.getD (0, [])) := fun k k1 k2 => by
    have hk : k - 1 < C.length := by omega
    rw [List.getElem?_eq_getElem hk]
    exact rc.at_ _ _ (List.getElem?_eq_getElem hk)
  have rbs : ∀ x : Int, x.natAbs < 2 ^ 114 → RB 4000 (Rat.divInt x B) := fun x hx => (rb_of (n := 120) hB.1 (by omega) (by omega)).le (by omega)
  have sms : ∀ k, 1 ≤ k → k ≤ A.length → k < m → m - k ≤ C.length → (sumAt A C m k).natAbs < 2 ^ 114 := fun k k1 k2 k3 k4 => by
    have x := (bA k k1 k2).sz (M := 0) ht (by omega)
    have y := (bC (m - k) (by omega) k4).sz (M := 0) hu (by omega)
    unfold sumAt
    omega
  have hp0 : 0 < hi - lo := by omega
  have hp1 : lo + (hi - lo) = hi := by omega
  -- the loop finds the least
  have lp : ∀ h, ∃ (j : Nat) (e4 e5 : Option W), lo ≤ j ∧ j < hi ∧ (∀ k, lo ≤ k → k < hi → sumAt A C m j ≤ sumAt A C m k) ∧ (∀ k, lo ≤ k → k < j → sumAt A C m j < sumAt A C m k) ∧
      forL [] (.n 4) L1_joined_rung (rngW lo (hi - lo)) [some (.fl (A.map (rgW B))), some (.fl (C.map (rgW B))), some (.int (m : Int)), some .non, none, none, none, none, none] h = .nx [some (.fl (A.map (rgW B))), some (.fl (C.map (rgW B))), some (.int (m : Int)), some (.tup [rat (Rat.divInt (sumAt A C m j) B), .int j]), e4, e5, none, none, none] h := by
    intro h
    obtain ⟨ρ', h', e, f, e4, e5, rfl, rfl, _, q⟩ := forL_all (g := []) (tg := .n 4) (b := L1_joined_rung) (fun i ρ h' => ∃ (f : W) (e4 e5 : Option W), h' = h ∧ ρ = [some (.fl (A.map (rgW B))), some (.fl (C.map (rgW B))), some (.int (m : Int)), some f, e4, e5, none, none, none] ∧ (i = 0 → f = .non) ∧ (0 < i → ∃ j, lo ≤ j ∧ j < lo + i ∧ f = .tup [rat (Rat.divInt (sumAt A C m j) B), .int (j : Nat)] ∧ (∀ k, lo ≤ k → k < lo + i → sumAt A C m j ≤ sumAt A C m k) ∧ ∀ k, lo ≤ k → k < j → sumAt A C m j < sumAt A C m k))
      (rngW lo (hi - lo)) [some (.fl (A.map (rgW B))), some (.fl (C.map (rgW B))), some (.int (m : Int)), some .non, none, none, none, none, none] h ⟨.non, none, none, rfl, rfl, fun _ => rfl, fun z => absurd z (by omega)⟩ (fun _ _ _ _ => rfl) (by
      rintro i w ρ h' hw ⟨f, e4, e5, rfl, rfl, f0, f1⟩
      obtain ⟨hlt, rfl⟩ := rngW_get hw
      obtain ⟨k, hk⟩ : ∃ k : Nat, k = lo + i := ⟨_, rfl⟩
      have ek : (lo : Int) + (i : Int) = (k : Int) := by omega
      rw [ek]
      have k1 : 1 ≤ k := by omega
      have k2 : k ≤ A.length := by omega
      have k3 : k < m := by omega
      have k4 : m - k ≤ C.length := by omega
      have gA := rows_get B ra k k1 k2 h'
      have gC := rows_get B rc (m - k) (by omega) k4 h'
      have em : ((m - k : Nat) : Int) - 1 = (m : Int) - (k : Int) - 1 := by omega
      rw [em] at gC
      have i0 : ∀ r, oIx (rgW B r) (.int 0) h' = .ok (rat (Rat.divInt r.1 B)) h' := fun r => oIx_t0
      have x := (bA k k1 k2).sz (M := 0) ht (by omega)
      have y := (bC (m - k) (by omega) k4).sz (M := 0) hu (by omega)
      have pl := plus_r (Rat.divInt (A[k - 1]?.getD (0, [])).1 B) (Rat.divInt (C[m - k - 1]?.getD (0, [])).1 B) h' (rbs _ (by omega)) (rbs _ (by omega))
      rw [div_sum hB.1] at pl
      change f_plus [_, _] h' = .ok (rat (Rat.divInt (sumAt A C m k) B)) h' at pl
      have sk := sms k k1 k2 k3 k4
      generalize A.map (rgW B) = AW at *
      generalize C.map (rgW B) = CW at *
      refine ⟨[some (.fl AW), some (.fl CW), some (.int (m : Int)), some f, some (.int (k : Int)), e5, none, none, none], rfl, .inl ?_⟩
      rcases Nat.eq_zero_or_pos i with hz | hp
      · have f0 := f0 hz
        subst f0
        refine ⟨[some (.fl AW), some (.fl CW), some (.int (m : Int)), some (.tup [rat (Rat.divInt (sumAt A C m k) B), .int k]), some (.int (k : Int)), some (rat (Rat.divInt (sumAt A C m k) B)), none, none, none], h', ?_, _, _, _, rfl, rfl, fun z => absurd z (by omega), fun _ => ⟨k, by omega, by omega, rfl, fun l l1 l2 => ?_, fun l l1 l2 => absurd l2 (by omega)⟩⟩
        · have nn : ∀ h, oIsN .non h = .ok (.bl true) h := fun h => rfl
          unfold L1_joined_rung
          simp only [sSeq_t, then_nx, then_ret, then_bk, then_ct, then_exc, sAsg_e, sIf_e, sRet_e, sRetN_e, sExp_e, sNx_e, sBrk_e, sCnt_e, sRaise_e, sFor_e, onR_ok, onR_exc, onO_some, run_n, run_t, runs_nil, runs_cons, Option.bind_some, dV_0, dV_1, dV_2, dV_3, dV_4, dV_5, dV_6, dV_7, dV_8, dV_9, dV_10, dV_11, dV_12, dV_13, dV_14, dV_15, dV_16, dC_e, dBin_e, dUn_e, dAnd_e, dOr_e, dNot_e, tVal_e, tAnd_e, tOr_e, tNot_e, dIf_e, dCall_e, aNil_e, aCons_e, dTup_e, Res.bind_ok, Res.bind_exc, asB_b, oAdd_i, oSub_i, oLt_i, oLe_i, oGt_i, oGe_i, oNeg_i, oEq_d, oNe_d, oEq_s, oNe_s, oAddI_i, bLen_fl, bLen_tup, bMax2_i, bMin2_i, List.length_cons, List.length_nil, List.length_map, Nat.zero_add, Nat.reduceAdd, Nat.reduceLT, big_lit0, big_lit1, big_lit2, big_lit3, big_lit4, if_true, if_false, List.set_cons_zero, List.set_cons_succ, decide_true, decide_false, Bool.not_true, Bool.not_false, Bool.false_eq_true, Bool.true_eq_false, decide_eq_true_eq, endF_ret, endF_nx, endF_exc, pAt_int, pNo_e, dSl_e, newL_e, cast0, cast1, cast2, cast3, cast4, cast5, gA, gC, i0, pl, nn]
        · have : l = k := by omega
          rw [this]; exact Int.le_refl _
      · obtain ⟨j, j1, j2, rfl, j3, j4⟩ := f1 hp
        have un : f_under [rat (Rat.divInt (sumAt A C m k) B), rat (Rat.divInt (sumAt A C m j) B)] h' = .ok (.bl (decide (sumAt A C m k < sumAt A C m j))) h' := by
          rw [under_r _ _ h' (rbs _ sk) (rbs _ (sms j (by omega) (by omega) (by omega) (by omega))), decide_eq_decide.mpr (divInt_lt hB.1)]
        have nn : ∀ a h, oIsN (.tup a) h = .ok (.bl false) h := fun a h => rfl
        have t0 : oIx (.tup [rat (Rat.divInt (sumAt A C m j) B), .int (j : Int)]) (.int 0) h' = .ok (rat (Rat.divInt (sumAt A C m j) B)) h' := oIx_t0
        by_cases lt : sumAt A C m k < sumAt A C m j
        · refine ⟨[some (.fl AW), some (.fl CW), some (.int (m : Int)), some (.tup [rat (Rat.divInt (sumAt A C m k) B), .int k]), some (.int (k : Int)), some (rat (Rat.divInt (sumAt A C m k) B)), none, none, none], h', ?_, _, _, _, rfl, rfl, fun z => absurd z (by omega), fun _ => ⟨k, by omega, by omega, rfl, fun l l1 l2 => ?_, fun l l1 l2 => Int.lt_of_lt_of_le lt (j3 l l1 (by omega))⟩⟩
          · unfold L1_joined_rung
            simp only [sSeq_t, then_nx, then_ret, then_bk, then_ct, then_exc, sAsg_e, sIf_e, sRet_e, sRetN_e, sExp_e, sNx_e, sBrk_e, sCnt_e, sRaise_e, sFor_e, onR_ok, onR_exc, onO_some, run_n, run_t, runs_nil, runs_cons, Option.bind_some, dV_0, dV_1, dV_2, dV_3, dV_4, dV_5, dV_6, dV_7, dV_8, dV_9, dV_10, dV_11, dV_12, dV_13, dV_14, dV_15, dV_16, dC_e, dBin_e, dUn_e, dAnd_e, dOr_e, dNot_e, tVal_e, tAnd_e, tOr_e, tNot_e, dIf_e, dCall_e, aNil_e, aCons_e, dTup_e, Res.bind_ok, Res.bind_exc, asB_b, oAdd_i, oSub_i, oLt_i, oLe_i, oGt_i, oGe_i, oNeg_i, oEq_d, oNe_d, oEq_s, oNe_s, oAddI_i, bLen_fl, bLen_tup, bMax2_i, bMin2_i, List.length_cons, List.length_nil, List.length_map, Nat.zero_add, Nat.reduceAdd, Nat.reduceLT, big_lit0, big_lit1, big_lit2, big_lit3, big_lit4, if_true, if_false, List.set_cons_zero, List.set_cons_succ, decide_true, decide_false, Bool.not_true, Bool.not_false, Bool.false_eq_true, Bool.true_eq_false, decide_eq_true_eq, endF_ret, endF_nx, endF_exc, pAt_int, pNo_e, dSl_e, newL_e, cast0, cast1, cast2, cast3, cast4, cast5, gA, gC, i0, pl, nn, t0, un, lt]
          · by_cases e : l = k
            · rw [e]; exact Int.le_refl _
            · have := j3 l l1 (by omega)
              omega
        · refine ⟨[some (.fl AW), some (.fl CW), some (.int (m : Int)), some (.tup [rat (Rat.divInt (sumAt A C m j) B), .int j]), some (.int (k : Int)), some (rat (Rat.divInt (sumAt A C m k) B)), none, none, none], h', ?_, _, _, _, rfl, rfl, fun z => absurd z (by omega), fun _ => ⟨j, by omega, by omega, rfl, fun l l1 l2 => ?_, j4⟩⟩
          · unfold L1_joined_rung
            simp only [sSeq_t, then_nx, then_ret, then_bk, then_ct, then_exc, sAsg_e, sIf_e, sRet_e, sRetN_e, sExp_e, sNx_e, sBrk_e, sCnt_e, sRaise_e, sFor_e, onR_ok, onR_exc, onO_some, run_n, run_t, runs_nil, runs_cons, Option.bind_some, dV_0, dV_1, dV_2, dV_3, dV_4, dV_5, dV_6, dV_7, dV_8, dV_9, dV_10, dV_11, dV_12, dV_13, dV_14, dV_15, dV_16, dC_e, dBin_e, dUn_e, dAnd_e, dOr_e, dNot_e, tVal_e, tAnd_e, tOr_e, tNot_e, dIf_e, dCall_e, aNil_e, aCons_e, dTup_e, Res.bind_ok, Res.bind_exc, asB_b, oAdd_i, oSub_i, oLt_i, oLe_i, oGt_i, oGe_i, oNeg_i, oEq_d, oNe_d, oEq_s, oNe_s, oAddI_i, bLen_fl, bLen_tup, bMax2_i, bMin2_i, List.length_cons, List.length_nil, List.length_map, Nat.zero_add, Nat.reduceAdd, Nat.reduceLT, big_lit0, big_lit1, big_lit2, big_lit3, big_lit4, if_true, if_false, List.set_cons_zero, List.set_cons_succ, decide_true, decide_false, Bool.not_true, Bool.not_false, Bool.false_eq_true, Bool.true_eq_false, decide_eq_true_eq, endF_ret, endF_nx, endF_exc, pAt_int, pNo_e, dSl_e, newL_e, cast0, cast1, cast2, cast3, cast4, cast5, gA, gC, i0, pl, nn, t0, un, lt]
          · by_cases e : l = k
            · rw [e]; omega
            · exact j3 l l1 (by omega))
    rw [rngW_len] at q
    obtain ⟨j, j1, j2, rfl, j3, j4⟩ := q hp0
    exact ⟨j, e4, e5, j1, hp1 ▸ j2, fun k k1 k2 => j3 k k1 (hp1.symm ▸ k2), j4, e⟩
  obtain ⟨j, _, _, j1, j2, j3, j4, _⟩ := lp []
  have lst : ∀ k, 1 ≤ k → k ≤ A.length → k < m → m - k ≤ C.length → sumAt A C m j ≤ sumAt A C m k := fun k k1 k2 k3 k4 => j3 k (by omega) (by omega)
  refine ⟨_, join_best (c := c) ra rc hm (by omega) (by omega) (by omega) (by omega) lst, fun h => ?_⟩
  have lp : ∃ (e4 e5 : Option W), forL [] (.n 4) L1_joined_rung (rngW lo (hi - lo)) [some (.fl (A.map (rgW B))), some (.fl (C.map (rgW B))), some (.int (m : Int)), some .non, none, none, none, none, none] h = .nx [some (.fl (A.map (rgW B))), some (.fl (C.map (rgW B))), some (.int (m : Int)), some (.tup [rat (Rat.divInt (sumAt A C m j) B), .int j]), e4, e5, none, none, none] h := by
    obtain ⟨i, e4, e5, i1, i2, i3, i4, e⟩ := lp h
    have : i = j := by
      rcases Nat.lt_trichotomy i j with z | z | z
      · have := j4 i i1 z
        have := i3 j j1 j2
        omega
      · exact z
      · have := i4 j j1 z
        have := j3 i i1 i2
        omega
    subst this
    exact ⟨e4, e5, e⟩
  obtain ⟨e4, e5, lp⟩ := lp
  have bA1 := bA j (by omega) (by omega)
  have bC1 := bC (m - j) (by omega) (by omega)
  have gA := rows_get B ra j (by omega) (by omega) h
  have gC := rows_get B rc (m - j) (by omega) (by omega) h
  have em : ((m - j : Nat) : Int) - 1 = (m : Int) - (j : Int) - 1 := by omega
  rw [em] at gC
  have i1 : ∀ r h, oIx (rgW B r) (.int 1) h = .ok (.fl (r.2.map W.str)) h := fun r h => oIx_t1
  obtain ⟨LA, hLA⟩ : ∃ LA, LA = (A[j - 1]?.getD (0, [])).2 := ⟨_, rfl⟩
  obtain ⟨LC, hLC⟩ : ∃ LC, LC = (C[m - j - 1]?.getD (0, [])).2 := ⟨_, rfl⟩
  have e6 := pre_gz (it := dBin oIx (dBin oIx (dV 0) (dBin oSub (dBin oIx (dV 3) (dC (.int 1))) (dC (.int 1)))) (dC (.int 1))) (ρ := [some (.fl (A.map (rgW B))), some (.fl (C.map (rgW B))), some (.int (m : Int)), some (.tup [rat (Rat.divInt (sumAt A C m j) B), .int j]), e4, e5, none, none, none]) (h := h) sY LA 8 (by simp) (by
    have t1 : oIx (.tup [rat (Rat.divInt (sumAt A C m j) B), .int (j : Int)]) (.int 1) h = .ok (.int j) h := oIx_t1
    generalize A.map (rgW B) = AW at *
    simp only [sSeq_t, then_nx, then_ret, then_bk, then_ct, then_exc, sAsg_e, sIf_e, sRet_e, sRetN_e, sExp_e, sNx_e, sBrk_e, sCnt_e, sRaise_e, sFor_e, onR_ok, onR_exc, onO_some, run_n, run_t, runs_nil, runs_cons, Option.bind_some, dV_0, dV_1, dV_2, dV_3, dV_4, dV_5, dV_6, dV_7, dV_8, dV_9, dV_10, dV_11, dV_12, dV_13, dV_14, dV_15, dV_16, dC_e, dBin_e, dUn_e, dAnd_e, dOr_e, dNot_e, tVal_e, tAnd_e, tOr_e, tNot_e, dIf_e, dCall_e, aNil_e, aCons_e, dTup_e, Res.bind_ok, Res.bind_exc, asB_b, oAdd_i, oSub_i, oLt_i, oLe_i, oGt_i, oGe_i, oNeg_i, oEq_d, oNe_d, oEq_s, oNe_s, oAddI_i, bLen_fl, bLen_tup, bMax2_i, bMin2_i, List.length_cons, List.length_nil, List.length_map, Nat.zero_add, Nat.reduceAdd, Nat.reduceLT, big_lit0, big_lit1, big_lit2, big_lit3, big_lit4, if_true, if_false, List.set_cons_zero, List.set_cons_succ, decide_true, decide_false, Bool.not_true, Bool.not_false, Bool.false_eq_true, Bool.true_eq_false, decide_eq_true_eq, endF_ret, endF_nx, endF_exc, pAt_int, pNo_e, dSl_e, newL_e, cast0, cast1, cast2, cast3, cast4, cast5, t1, gA, i1, hLA]) (by
      have := bA1.1.cut.len
      rw [hLA]; omega) (fun q hq => by
      rw [hLA] at hq
      have := Cut.low bA1.1.cut q hq
      simp at this ⊢
      omega)
  have e7 := pre_gz (it := dBin oIx (dBin oIx (dV 1) (dBin oSub (dBin oSub (dV 2) (dBin oIx (dV 3) (dC (.int 1)))) (dC (.int 1)))) (dC (.int 1))) (ρ := [some (.fl (A.map (rgW B))), some (.fl (C.map (rgW B))), some (.int (m : Int)), some (.tup [rat (Rat.divInt (sumAt A C m j) B), .int j]), e4, e5, some (.fl ((LA.map (sY ++ ·)).map W.str)), none, none]) (h := h) sN LC 8 (by simp) (by
    have t1 : oIx (.tup [rat (Rat.divInt (sumAt A C m j) B), .int (j : Int)]) (.int 1) h = .ok (.int j) h := oIx_t1
    generalize A.map (rgW B) = AW at *
    generalize C.map (rgW B) = CW at *
    generalize (LA.map (sY ++ ·)).map W.str = YW at *
    simp only [sSeq_t, then_nx, then_ret, then_bk, then_ct, then_exc, sAsg_e, sIf_e, sRet_e, sRetN_e, sExp_e, sNx_e, sBrk_e, sCnt_e, sRaise_e, sFor_e, onR_ok, onR_exc, onO_some, run_n, run_t, runs_nil, runs_cons, Option.bind_some, dV_0, dV_1, dV_2, dV_3, dV_4, dV_5, dV_6, dV_7, dV_8, dV_9, dV_10, dV_11, dV_12, dV_13, dV_14, dV_15, dV_16, dC_e, dBin_e, dUn_e, dAnd_e, dOr_e, dNot_e, tVal_e, tAnd_e, tOr_e, tNot_e, dIf_e, dCall_e, aNil_e, aCons_e, dTup_e, Res.bind_ok, Res.bind_exc, asB_b, oAdd_i, oSub_i, oLt_i, oLe_i, oGt_i, oGe_i, oNeg_i, oEq_d, oNe_d, oEq_s, oNe_s, oAddI_i, bLen_fl, bLen_tup, bMax2_i, bMin2_i, List.length_cons, List.length_nil, List.length_map, Nat.zero_add, Nat.reduceAdd, Nat.reduceLT, big_lit0, big_lit1, big_lit2, big_lit3, big_lit4, if_true, if_false, List.set_cons_zero, List.set_cons_succ, decide_true, decide_false, Bool.not_true, Bool.not_false, Bool.false_eq_true, Bool.true_eq_false, decide_eq_true_eq, endF_ret, endF_nx, endF_exc, pAt_int, pNo_e, dSl_e, newL_e, cast0, cast1, cast2, cast3, cast4, cast5, t1, gC, i1, hLC]) (by
      have := bC1.1.cut.len
      rw [hLC]; omega) (fun q hq => by
      rw [hLC] at hq
      have := Cut.low bC1.1.cut q hq
      simp at this ⊢
      omega)
  have rg : iRng2 (dCall bMax2 (aCons (dC (.int 1)) (aCons (dBin oSub (dV 2) (dCall bLen (aCons (dV 1) (aNil)))) (aNil)))) (dBin oAdd (dCall bMin2 (aCons (dCall bLen (aCons (dV 0) (aNil))) (aCons (dBin oSub (dV 2) (dC (.int 1))) (aNil)))) (dC (.int 1))) [some (.fl (A.map (rgW B))), some (.fl (C.map (rgW B))), some (.int (m : Int)), some .non, none, none, none, none, none] h = .ok (rngW lo (hi - lo), []) h := by
    have e := iRng2_e (d := dCall bMax2 (aCons (dC (.int 1)) (aCons (dBin oSub (dV 2) (dCall bLen (aCons (dV 1) (aNil)))) (aNil)))) (e := dBin oAdd (dCall bMin2 (aCons (dCall bLen (aCons (dV 0) (aNil))) (aCons (dBin oSub (dV 2) (dC (.int 1))) (aNil)))) (dC (.int 1))) (ρ := [some (.fl (A.map (rgW B))), some (.fl (C.map (rgW B))), some (.int (m : Int)), some .non, none, none, none, none, none]) (h := h) (i := lo) (j := hi) (by
      rw [hlo]; simp only [sSeq_t, then_nx, then_ret, then_bk, then_ct, then_exc, sAsg_e, sIf_e, sRet_e, sRetN_e, sExp_e, sNx_e, sBrk_e, sCnt_e, sRaise_e, sFor_e, onR_ok, onR_exc, onO_some, run_n, run_t, runs_nil, runs_cons, Option.bind_some, dV_0, dV_1, dV_2, dV_3, dV_4, dV_5, dV_6, dV_7, dV_8, dV_9, dV_10, dV_11, dV_12, dV_13, dV_14, dV_15, dV_16, dC_e, dBin_e, dUn_e, dAnd_e, dOr_e, dNot_e, tVal_e, tAnd_e, tOr_e, tNot_e, dIf_e, dCall_e, aNil_e, aCons_e, dTup_e, Res.bind_ok, Res.bind_exc, asB_b, oAdd_i, oSub_i, oLt_i, oLe_i, oGt_i, oGe_i, oNeg_i, oEq_d, oNe_d, oEq_s, oNe_s, oAddI_i, bLen_fl, bLen_tup, bMax2_i, bMin2_i, List.length_cons, List.length_nil, List.length_map, Nat.zero_add, Nat.reduceAdd, Nat.reduceLT, big_lit0, big_lit1, big_lit2, big_lit3, big_lit4, if_true, if_false, List.set_cons_zero, List.set_cons_succ, decide_true, decide_false, Bool.not_true, Bool.not_false, Bool.false_eq_true, Bool.true_eq_false, decide_eq_true_eq, endF_ret, endF_nx, endF_exc, pAt_int, pNo_e, dSl_e, newL_e, cast0, cast1, cast2, cast3, cast4, cast5]) (by rw [hhi]; simp only [sSeq_t, then_nx, then_ret, then_bk, then_ct, then_exc, sAsg_e, sIf_e, sRet_e, sRetN_e, sExp_e, sNx_e, sBrk_e, sCnt_e, sRaise_e, sFor_e, onR_ok, onR_exc, onO_some, run_n, run_t, runs_nil, runs_cons, Option.bind_some, dV_0, dV_1, dV_2, dV_3, dV_4, dV_5, dV_6, dV_7, dV_8, dV_9, dV_10, dV_11, dV_12, dV_13, dV_14, dV_15, dV_16, dC_e, dBin_e, dUn_e, dAnd_e, dOr_e, dNot_e, tVal_e, tAnd_e, tOr_e, tNot_e, dIf_e, dCall_e, aNil_e, aCons_e, dTup_e, Res.bind_ok, Res.bind_exc, asB_b, oAdd_i, oSub_i, oLt_i, oLe_i, oGt_i, oGe_i, oNeg_i, oEq_d, oNe_d, oEq_s, oNe_s, oAddI_i, bLen_fl, bLen_tup, bMax2_i, bMin2_i, List.length_cons, List.length_nil, List.length_map, Nat.zero_add, Nat.reduceAdd, Nat.reduceLT, big_lit0, big_lit1, big_lit2, big_lit3, big_lit4, if_true, if_false, List.set_cons_zero, List.set_cons_succ, decide_true, decide_false, Bool.not_true, Bool.not_false, Bool.false_eq_true, Bool.true_eq_false, decide_eq_true_eq, endF_ret, endF_nx, endF_exc, pAt_int, pNo_e, dSl_e, newL_e, cast0, cast1, cast2, cast3, cast4, cast5]) (by omega) (by omega)
    rw [e]
    have : ((hi : Int) - (lo : Int)).toNat = hi - lo := by omega
    rw [this]
  have srt : (sortS (LA.map (sY ++ ·) ++ LC.map (sN ++ ·))) = LC.map (sN ++ ·) ++ LA.map (sY ++ ·) := by
    have cb : Cut (.fk c t u) [] (LC.map (sN ++ ·) ++ LA.map (sY ++ ·)) := by
      have := (join_best (c := c) ra rc hm (by omega) (by omega) (by omega) (by omega) lst).1.cut
      rw [hLA, hLC]
      exact this
    exact (sortS_of List.perm_append_comm (cb.up.1.imp lt_le)).symm
  have ad : ∀ h, oAdd (.fl ((LA.map (sY ++ ·)).map W.str)) (.fl ((LC.map (sN ++ ·)).map W.str)) h = newL ((LA.map (sY ++ ·) ++ LC.map (sN ++ ·)).map W.str) h := fun h => by
    have l1 := bA1.1.cut.len
    have l2 := bC1.1.cut.len
    rw [← hLA] at l1
    rw [← hLC] at l2
    rw [oAdd_flfl (by simp only [List.length_map]; unfold bigL; omega), ← List.map_append]
  have so : bSorted [.ref h.length] (h ++ [.lst ((LA.map (sY ++ ·) ++ LC.map (sN ++ ·)).map W.str)]) = newL ((LC.map (sN ++ ·) ++ LA.map (sY ++ ·)).map W.str) (h ++ [.lst ((LA.map (sY ++ ·) ++ LC.map (sN ++ ·)).map W.str)]) := by
    rw [bSorted_at (ss := LA.map (sY ++ ·) ++ LC.map (sN ++ ·)) (List.getElem?_concat_length ..), srt]
  refine ⟨.lst ((LA.map (sY ++ ·) ++ LC.map (sN ++ ·)).map W.str), ?_⟩
  dsimp only
  rw [← hLA, ← hLC]
  rw [f_joined_rung_e]
  unfold b_joined_rung
  have t0 : oIx (.tup [rat (Rat.divInt (sumAt A C m j) B), .int (j : Int)]) (.int 0) h = .ok (rat (Rat.divInt (sumAt A C m j) B)) h := oIx_t0
  rw [seq_nx (by simp only [sSeq_t, then_nx, then_ret, then_bk, then_ct, then_exc, sAsg_e, sIf_e, sRet_e, sRetN_e, sExp_e, sNx_e, sBrk_e, sCnt_e, sRaise_e, sFor_e, onR_ok, onR_exc, onO_some, run_n, run_t, runs_nil, runs_cons, Option.bind_some, dV_0, dV_1, dV_2, dV_3, dV_4, dV_5, dV_6, dV_7, dV_8, dV_9, dV_10, dV_11, dV_12, dV_13, dV_14, dV_15, dV_16, dC_e, dBin_e, dUn_e, dAnd_e, dOr_e, dNot_e, tVal_e, tAnd_e, tOr_e, tNot_e, dIf_e, dCall_e, aNil_e, aCons_e, dTup_e, Res.bind_ok, Res.bind_exc, asB_b, oAdd_i, oSub_i, oLt_i, oLe_i, oGt_i, oGe_i, oNeg_i, oEq_d, oNe_d, oEq_s, oNe_s, oAddI_i, bLen_fl, bLen_tup, bMax2_i, bMin2_i, List.length_cons, List.length_nil, List.length_map, Nat.zero_add, Nat.reduceAdd, Nat.reduceLT, big_lit0, big_lit1, big_lit2, big_lit3, big_lit4, if_true, if_false, List.set_cons_zero, List.set_cons_succ, decide_true, decide_false, Bool.not_true, Bool.not_false, Bool.false_eq_true, Bool.true_eq_false, decide_eq_true_eq, endF_ret, endF_nx, endF_exc, pAt_int, pNo_e, dSl_e, newL_e, cast0, cast1, cast2, cast3, cast4, cast5]; rfl)]
  rw [seq_nx (by rw [sFor_e, rg, onR_ok]; exact lp)]
  rw [seq_nx (by rw [sAsg_e, e6]; rfl)]
  rw [seq_nx (by rw [sAsg_e]; erw [e7]; rfl)]
  generalize A.map (rgW B) = AW at *
  generalize C.map (rgW B) = CW at *
  generalize hY : (LA.map (sY ++ ·)).map W.str = YW at *
  generalize hN : (LC.map (sN ++ ·)).map W.str = NW at *
  generalize (LA.map (sY ++ ·) ++ LC.map (sN ++ ·)).map W.str = YN at *
  generalize (LC.map (sN ++ ·) ++ LA.map (sY ++ ·)).map W.str = NY at *
  simp only [sSeq_t, then_nx, then_ret, then_bk, then_ct, then_exc, sAsg_e, sIf_e, sRet_e, sRetN_e, sExp_e, sNx_e, sBrk_e, sCnt_e, sRaise_e, sFor_e, onR_ok, onR_exc, onO_some, run_n, run_t, runs_nil, runs_cons, Option.bind_some, dV_0, dV_1, dV_2, dV_3, dV_4, dV_5, dV_6, dV_7, dV_8, dV_9, dV_10, dV_11, dV_12, dV_13, dV_14, dV_15, dV_16, dC_e, dBin_e, dUn_e, dAnd_e, dOr_e, dNot_e, tVal_e, tAnd_e, tOr_e, tNot_e, dIf_e, dCall_e, aNil_e, aCons_e, dTup_e, Res.bind_ok, Res.bind_exc, asB_b, oAdd_i, oSub_i, oLt_i, oLe_i, oGt_i, oGe_i, oNeg_i, oEq_d, oNe_d, oEq_s, oNe_s, oAddI_i, bLen_fl, bLen_tup, bMax2_i, bMin2_i, List.length_cons, List.length_nil, List.length_map, Nat.zero_add, Nat.reduceAdd, Nat.reduceLT, big_lit0, big_lit1, big_lit2, big_lit3, big_lit4, if_true, if_false, List.set_cons_zero, List.set_cons_succ, decide_true, decide_false, Bool.not_true, Bool.not_false, Bool.false_eq_true, Bool.true_eq_false, decide_eq_true_eq, endF_ret, endF_nx, endF_exc, pAt_int, pNo_e, dSl_e, newL_e, cast0, cast1, cast2, cast3, cast4, cast5, t0, ad, so, List.length_append, List.append_assoc]
  rfl
end Law
end PF
namespace PF
namespace Law
theorem all_choose {α : Type} {P : Nat → α → Prop} : ∀ n : Nat, (∀ i, i < n → ∃ x, P i x) → ∃ l : List α, l.length = n ∧ ∀ i x, l[i]? = some x → P i x
  | 0, _ => ⟨[], rfl, fun i x e => by simp at e⟩
  | n + 1, h => by
    obtain ⟨l, h1, h2⟩ := all_choose n fun i hi => h i (by omega)
    obtain ⟨x, hx⟩ := h n (by omega)
    refine ⟨l ++ [x], by simp [h1], fun i y e => ?_⟩
    by_cases hi : i < l.length
    · rw [List.getElem?_append_left hi] at e
      exact h2 i y e
    · rw [List.getElem?_append_right (by omega)] at e
      have : i - l.length = 0 := by
        rcases Nat.eq_zero_or_pos (i - l.length) with z | z
        · exact z
        · rw [List.getElem?_eq_none (by simp; omega)] at e
          cases e
      rw [this] at e
      cases e
      have : i = n := by omega
      rw [this]; exact hx
/-- a ratio and where the places stand -/
def lvW (u : Rat × Nat) : W := .tup [rat u.1, .ref u.2]
/-- the rungs at hand: the places in cells of their own, from b on, none of them at d -/
structure Live (h : Hs) (b d : Nat) (B : Int) (R : List Rg) (us : List (Rat × Nat)) : Prop where
  len : us.length = R.length
  at_ : ∀ (k : Nat) (r : Rg), R[k]? = some r → ∃ j, b ≤ j ∧ j ≠ d ∧ us[k]? = some (Rat.divInt r.1 B, j) ∧ h[j]? = some (.lst (r.2.map W.str))
theorem Live.more {h e : Hs} {b d : Nat} {B : Int} {R : List Rg} {us : List (Rat × Nat)} (l : Live h b d B R us) : Live (h ++ e) b d B R us :=
  ⟨l.len, fun k r hr => by
    obtain ⟨j, j1, j2, j3, j4⟩ := l.at_ k r hr
    exact ⟨j, j1, j2, j3, by rw [List.getElem?_append_left (List.getElem?_eq_some_iff.mp j4).1]; exact j4⟩⟩
theorem Live.set {h : Hs} {b d : Nat} {B : Int} {R : List Rg} {us : List (Rat × Nat)} (c : Cell) (l : Live h b d B R us) : Live (h.set d c) b d B R us :=
  ⟨l.len, fun k r hr => by
    obtain ⟨j, j1, j2, j3, j4⟩ := l.at_ k r hr
    exact ⟨j, j1, j2, j3, by rw [List.getElem?_set, if_neg (fun e => j2 e.symm)]; exact j4⟩⟩
theorem Live.snoc {h : Hs} {b d : Nat} {B : Int} {R : List Rg} {us : List (Rat × Nat)} (l : Live h b d B R us) {r : Rg} {j : Nat} (j1 : b ≤ j) (j2 : j ≠ d) (j3 : h[j]? = some (.lst (r.2.map W.str))) : Live h b d B (R ++ [r]) (us ++ [(Rat.divInt r.1 B, j)]) :=
  ⟨by simp [l.len], fun k s hs => by
    by_cases hk : k < R.length
    · rw [List.getElem?_append_left hk] at hs
      rw [List.getElem?_append_left (by rw [l.len]; exact hk)]
      exact l.at_ k s hs
    · rw [List.getElem?_append_right (by omega)] at hs
      have : k - R.length = 0 := by
        rcases Nat.eq_zero_or_pos (k - R.length) with z | z
        · exact z
        · rw [List.getElem?_eq_none (by simp; omega)] at hs
          cases hs
      rw [this] at hs
      cases hs
      refine ⟨j, j1, j2, ?_, j3⟩
      have e : k = us.length := by have := l.len; omega
      rw [e]; simp⟩
theorem mapO_live {h : Hs} {b d n : Nat} {B : Int} : ∀ {R : List Rg} {us : List (Rat × Nat)}, Live h b d B R us → mapO (fzW h b (n + 2)) (us.map lvW) = some (R.map (rgW B))
  | [], us, l => by
    have : us = [] := List.length_eq_zero_iff.mp l.len
    rw [this]; rfl
  | r :: R, [], l => by have := l.len; simp at this
  | r :: R, u :: us, l => by
    obtain ⟨j, j1, j2, j3, j4⟩ := l.at_ 0 r rfl
    have j3 : u = (Rat.divInt r.1 B, j) := by simpa using j3
    have ih := mapO_live (n := n) (R := R) (us := us) ⟨by have := l.len; simpa using this, fun k s hs => by
      have := l.at_ (k + 1) s (by simpa using hs)
      simpa using this⟩
    rw [List.map_cons, mapO, ih]
    have e : fzW h b (n + 2) (lvW u) = some (rgW B r) := by
      have f := fz_ref (h' := h) (n := b) (d := n) (i := j) (ws := r.2.map W.str) j1 j4 (strs_pure _)
      have g := fz_pure (h := h) (n := b) (d := n + 1) (rat_pure (Rat.divInt r.1 B))
      rw [j3]
      unfold lvW rgW fzW
      simp [f, g]
    rw [e]; rfl
theorem Live.gc {h e : Hs} {d : Nat} {B : Int} {R : List Rg} {us : List (Rat × Nat)} {b : Nat} (hb : h.length ≤ b) (l : Live (h ++ e) b d B R us) (hd : h.length ≤ d) (ed : (h ++ e)[d]? = some (.lst (us.map lvW))) : gc h (.ok (.ref d) (h ++ e)) = .ok (.fl (R.map (rgW B))) h := by
  have l : Live (h ++ e) h.length d B R us := ⟨l.len, fun k r hr => by
    obtain ⟨j, j1, j2⟩ := l.at_ k r hr
    exact ⟨j, by omega, j2⟩⟩
  unfold PF.gc
  dsimp only
  rw [if_pos (tame_app h e)]
  have hn : ¬ d < h.length := by omega
  have m := mapO_live (n := 57) l
  have : fzW (h ++ e) h.length 60 (.ref d) = some (.fl (R.map (rgW B))) := by
    show fzW (h ++ e) h.length (57 + 2 + 1) (.ref d) = _
    unfold fzW
    simp only [pure_ref, Bool.false_eq_true, if_false, if_neg hn, ed, m, Option.map_some]
  rw [this]
  dsimp only
  rw [List.take_left]
theorem rungs_e {B : Int} (hB : 0 < B ∧ B < 2 ^ 100) : ∀ (t : Tr) (n : Nat), t.high < n → t.high < 50 → t.leaves ≤ 100 → t.costs (2 ^ 105) → ∃ R, Rows t R ∧ ∀ h, ∃ e us, f_rungs n [trF (fun c => rat (Rat.divInt c B)) t] h = .ok (.ref (h.length + 1)) (h ++ e) ∧ (h ++ e)[h.length + 1]? = some (.lst (us.map lvW)) ∧ Live (h ++ e) h.length (h.length + 1) B R us
  | .en c, n + 1, _, _, _, _ => by
    refine ⟨[(c, [[]])], ⟨rfl, fun k r hr => ?_⟩, fun h => ⟨[.lst [.str []], .lst [.tup [rat (Rat.divInt c B), .ref h.length]]], [(Rat.divInt c B, h.length)], ?_, by simp [lvW], ⟨rfl, fun k r hr => ?_⟩⟩⟩
    · match k with
      | 0 =>
        cases hr
        refine ⟨.here (.en c) [], rfl, fun L s cs hL => ?_⟩
        cases cs
        exact Int.le_refl _
      | k + 1 => simp at hr
    · rw [f_rungs_e]
      unfold b_rungs
      have t0 := trg0 (fun c => rat (Rat.divInt c B)) (.en c)
      have t1 := trg1 (fun c => rat (Rat.divInt c B)) (.en c)
      generalize trF (fun c => rat (Rat.divInt c B)) (.en c) = TW at *
      simp only [sSeq_t, then_nx, then_ret, then_bk, then_ct, then_exc, sAsg_e, sIf_e, sRet_e, sRetN_e, sExp_e, sNx_e, sBrk_e, sCnt_e, sRaise_e, sFor_e, onR_ok, onR_exc, onO_some, run_n, run_t, runs_nil, runs_cons, Option.bind_some, dV_0, dV_1, dV_2, dV_3, dV_4, dV_5, dV_6, dV_7, dV_8, dV_9, dV_10, dV_11, dV_12, dV_13, dV_14, dV_15, dV_16, dC_e, dBin_e, dUn_e, dAnd_e, dOr_e, dNot_e, tVal_e, tAnd_e, tOr_e, tNot_e, dIf_e, dCall_e, aNil_e, aCons_e, dTup_e, Res.bind_ok, Res.bind_exc, asB_b, oAdd_i, oSub_i, oLt_i, oLe_i, oGt_i, oGe_i, oNeg_i, oEq_d, oNe_d, oEq_s, oNe_s, oAddI_i, bLen_fl, bLen_tup, bMax2_i, bMin2_i, List.length_cons, List.length_nil, List.length_map, Nat.zero_add, Nat.reduceAdd, Nat.reduceLT, big_lit0, big_lit1, big_lit2, big_lit3, big_lit4, if_true, if_false, List.set_cons_zero, List.set_cons_succ, decide_true, decide_false, Bool.not_true, Bool.not_false, Bool.false_eq_true, Bool.true_eq_false, decide_eq_true_eq, endF_ret, endF_nx, endF_exc, pAt_int, pNo_e, dSl_e, newL_e, cast0, cast1, cast2, cast3, cast4, cast5, t0, t1, kindOf, tcost, dLst_e, List.append_assoc, List.length_append]
      rfl
    · match k with
      | 0 => cases hr; exact ⟨h.length, Nat.le_refl _, by omega, rfl, by simp⟩
      | k + 1 => simp at hr
  | .fk c t u, n + 1, hn, hh, hl, tc => by
    have e1 : (Tr.fk c t u).high = 1 + max t.high u.high := rfl
    have e2 : (Tr.fk c t u).leaves = t.leaves + u.leaves := rfl
    rw [e1] at hn hh
    rw [e2] at hl
    obtain ⟨A, ra, eA⟩ := rungs_e hB t n (by omega) (by omega) (by omega) tc.2.1
    obtain ⟨C, rc, eC⟩ := rungs_e hB u n (by omega) (by omega) (by omega) tc.2.2
    have gA : ∀ h, gc h (f_rungs n [trF (fun c => rat (Rat.divInt c B)) t] h) = .ok (.fl (A.map (rgW B))) h := fun h => by
      obtain ⟨e, us, q1, q2, q3⟩ := eA h
      rw [q1]; exact q3.gc (Nat.le_refl _) (by omega) q2
    have gC : ∀ h, gc h (f_rungs n [trF (fun c => rat (Rat.divInt c B)) u] h) = .ok (.fl (C.map (rgW B))) h := fun h => by
      obtain ⟨e, us, q1, q2, q3⟩ := eC h
      rw [q1]; exact q3.gc (Nat.le_refl _) (by omega) q2
    have la := ra.len
    have lc := rc.len
    have pa := t.leaves_pos
    have pc := u.leaves_pos
    obtain ⟨l, l1, l2⟩ := all_choose (P := fun i r => Best (.fk c t u) (i + 1) r ∧ ∀ h, ∃ c1, f_joined_rung [.fl (A.map (rgW B)), .fl (C.map (rgW B)), .int ((2 : Int) + i)] h = .ok (.tup [rat (Rat.divInt r.1 B), .ref (h.length + 1)]) (h ++ [c1, .lst (r.2.map W.str)])) (A.length + C.length - 1) fun i hi => by
      obtain ⟨r, r1, r2⟩ := join_e hB (c := c) ra rc tc.2.1 tc.2.2 hl (by omega) (by omega) (m := 2 + i) (by omega) (by omega)
      have e3 : 2 + i - 1 = i + 1 := by omega
      rw [e3] at r1
      refine ⟨r, r1, fun h => ?_⟩
      have := r2 h
      have e4 : ((2 + i : Nat) : Int) = 2 + (i : Int) := by omega
      rwa [e4] at this
    refine ⟨(c, [[]]) :: l, ⟨by rw [List.length_cons, e2]; omega, fun k r hr => ?_⟩, fun h => ?_⟩
    · match k with
      | 0 =>
        cases hr
        refine ⟨.here (.fk c t u) [], rfl, fun L s cs hL => ?_⟩
        cases cs with
        | here => exact Int.le_refl _
        | split x y =>
          have := x.cut.len
          have := y.cut.len
          rw [List.length_append] at hL
          omega
      | k + 1 => exact (l2 k r (by simpa using hr)).1
    · rw [f_rungs_e]
      unfold b_rungs
      have t0 := trg0 (fun c => rat (Rat.divInt c B)) (.fk c t u)
      have t1 := trg1 (fun c => rat (Rat.divInt c B)) (.fk c t u)
      have t2 : ∀ h, oIx (trF (fun c => rat (Rat.divInt c B)) (.fk c t u)) (.int 2) h = .ok (trF (fun c => rat (Rat.divInt c B)) t) h := fun h => oIx_tup (k := 2) rfl
      have t3 : ∀ h, oIx (trF (fun c => rat (Rat.divInt c B)) (.fk c t u)) (.int 3) h = .ok (trF (fun c => rat (Rat.divInt c B)) u) h := fun h => oIx_tup (k := 3) rfl
      have nf : decide (tFork = [101, 110, 100]) = false := by decide
      generalize trF (fun c => rat (Rat.divInt c B)) (.fk c t u) = TW at *
      generalize trF (fun c => rat (Rat.divInt c B)) t = TY at *
      generalize trF (fun c => rat (Rat.divInt c B)) u = TN at *
      have lA : (A.map (rgW B)).length = A.length := List.length_map _
      have lC : (C.map (rgW B)).length = C.length := List.length_map _
      obtain ⟨h0, hh0⟩ : ∃ h0, h0 = h ++ [Cell.lst [.str []], .lst [.tup [rat (Rat.divInt c B), .ref h.length]]] := ⟨_, rfl⟩
      have len0 : h.length + 2 = h0.length := by rw [hh0]; simp
      obtain ⟨ρ', h', e, e4, us, J, rfl, hd, lv, rfl⟩ := forL_all (g := []) (tg := .n 4) (b := L1_rungs (f_rungs n)) (fun i ρ h' => ∃ (e4 : Option W) (us : List (Rat × Nat)) (J : Hs), h' = h ++ J ∧ h'[h.length + 1]? = some (.lst (us.map lvW)) ∧ Live h' h.length (h.length + 1) B (((c, [[]]) :: l).take (i + 1)) us ∧ ρ = [some TW, some (.ref (h.length + 1)), some (.fl (A.map (rgW B))), some (.fl (C.map (rgW B))), e4])
        (rngW 2 (A.length + C.length - 1)) [some TW, some (.ref (h.length + 1)), some (.fl (A.map (rgW B))), some (.fl (C.map (rgW B))), none] h0 ⟨none, [(Rat.divInt c B, h.length)], [Cell.lst [.str []], .lst [.tup [rat (Rat.divInt c B), .ref h.length]]], hh0, by rw [hh0]; simp [lvW], ⟨by simp, fun k r hr => by
          match k with
          | 0 => cases hr; exact ⟨h.length, Nat.le_refl _, by omega, rfl, by rw [hh0]; simp⟩
          | k + 1 => simp at hr⟩, rfl⟩ (fun _ _ _ _ => rfl) (by
        rintro i w ρ h' hw ⟨e4, us, J, hJ, hd, lv, rfl⟩
        obtain ⟨hi, rfl⟩ := rngW_get hw
        obtain ⟨r, hr⟩ : ∃ r, l[i]? = some r := ⟨_, List.getElem?_eq_getElem (by omega)⟩
        obtain ⟨_, q⟩ := l2 i r hr
        obtain ⟨c1, q⟩ := q h'
        have hlt : h.length + 1 < h'.length := (List.getElem?_eq_some_iff.mp hd).1
        have kd : kdOf (.ref (h.length + 1)) h' = some .lst := kd_at hd
        have hd2 : (h' ++ [c1, Cell.lst (r.2.map W.str)])[h.length + 1]? = some (.lst (us.map lvW)) := by rw [List.getElem?_append_left hlt]; exact hd
        have ul : us.length ≤ l.length + 1 := by rw [lv.len, List.length_take, List.length_cons]; omega
        have ap := mApp_at (w := .tup [rat (Rat.divInt r.1 B), .ref (h'.length + 1)]) hd2 (by rw [List.length_map]; unfold bigL; omega)
        refine ⟨[some TW, some (.ref (h.length + 1)), some (.fl (A.map (rgW B))), some (.fl (C.map (rgW B))), some (.int (2 + (i : Int)))], rfl, .inl ⟨[some TW, some (.ref (h.length + 1)), some (.fl (A.map (rgW B))), some (.fl (C.map (rgW B))), some (.int (2 + (i : Int)))], (h' ++ [c1, Cell.lst (r.2.map W.str)]).set (h.length + 1) (.lst (us.map lvW ++ [.tup [rat (Rat.divInt r.1 B), .ref (h'.length + 1)]])), ?_, _, us ++ [(Rat.divInt r.1 B, h'.length + 1)], (J ++ [c1, Cell.lst (r.2.map W.str)]).set 1 (.lst (us.map lvW ++ [.tup [rat (Rat.divInt r.1 B), .ref (h'.length + 1)]])), ?_, ?_, ?_, rfl⟩⟩
        · unfold L1_rungs
          generalize A.map (rgW B) = AW at *
          generalize C.map (rgW B) = CW at *
          simp only [sSeq_t, then_nx, then_ret, then_bk, then_ct, then_exc, sAsg_e, sIf_e, sRet_e, sRetN_e, sExp_e, sNx_e, sBrk_e, sCnt_e, sRaise_e, sFor_e, onR_ok, onR_exc, onO_some, run_n, run_t, runs_nil, runs_cons, Option.bind_some, dV_0, dV_1, dV_2, dV_3, dV_4, dV_5, dV_6, dV_7, dV_8, dV_9, dV_10, dV_11, dV_12, dV_13, dV_14, dV_15, dV_16, dC_e, dBin_e, dUn_e, dAnd_e, dOr_e, dNot_e, tVal_e, tAnd_e, tOr_e, tNot_e, dIf_e, dCall_e, aNil_e, aCons_e, dTup_e, Res.bind_ok, Res.bind_exc, asB_b, oAdd_i, oSub_i, oLt_i, oLe_i, oGt_i, oGe_i, oNeg_i, oEq_d, oNe_d, oEq_s, oNe_s, oAddI_i, bLen_fl, bLen_tup, bMax2_i, bMin2_i, List.length_cons, List.length_nil, List.length_map, Nat.zero_add, Nat.reduceAdd, Nat.reduceLT, big_lit0, big_lit1, big_lit2, big_lit3, big_lit4, if_true, if_false, List.set_cons_zero, List.set_cons_succ, decide_true, decide_false, Bool.not_true, Bool.not_false, Bool.false_eq_true, Bool.true_eq_false, decide_eq_true_eq, endF_ret, endF_nx, endF_exc, pAt_int, pNo_e, dSl_e, newL_e, cast0, cast1, cast2, cast3, cast4, cast5, dMeth_e, kd, q, ap]
        · rw [hJ, List.append_assoc, List.set_append_right _ _ (by omega), show h.length + 1 - h.length = 1 by omega]
        · rw [List.getElem?_set, if_pos rfl, if_pos (by rw [List.length_append]; omega), List.map_append]
          rfl
        · have lv2 := (lv.more (e := [c1, Cell.lst (r.2.map W.str)])).set (.lst (us.map lvW ++ [.tup [rat (Rat.divInt r.1 B), .ref (h'.length + 1)]]))
          have lv3 := lv2.snoc (r := r) (j := h'.length + 1) (by omega) (by omega) (by
            rw [List.getElem?_set, if_neg (by omega), List.getElem?_append_right (by omega), show h'.length + 1 - h'.length = 1 by omega]
            rfl)
          rw [List.take_succ_cons, List.take_add_one, hr]
          rw [List.take_succ_cons] at lv3
          exact lv3)
      rw [rngW_len, List.take_of_length_le (by rw [List.length_cons]; omega)] at lv
      refine ⟨J, us, ?_, hd, lv⟩
      rw [seq_nx (ρ1 := [some TW, some (.ref (h.length + 1)), none, none, none]) (h1 := h0) (by
        rw [hh0]; simp only [sSeq_t, then_nx, then_ret, then_bk, then_ct, then_exc, sAsg_e, sIf_e, sRet_e, sRetN_e, sExp_e, sNx_e, sBrk_e, sCnt_e, sRaise_e, sFor_e, onR_ok, onR_exc, onO_some, run_n, run_t, runs_nil, runs_cons, Option.bind_some, dV_0, dV_1, dV_2, dV_3, dV_4, dV_5, dV_6, dV_7, dV_8, dV_9, dV_10, dV_11, dV_12, dV_13, dV_14, dV_15, dV_16, dC_e, dBin_e, dUn_e, dAnd_e, dOr_e, dNot_e, tVal_e, tAnd_e, tOr_e, tNot_e, dIf_e, dCall_e, aNil_e, aCons_e, dTup_e, Res.bind_ok, Res.bind_exc, asB_b, oAdd_i, oSub_i, oLt_i, oLe_i, oGt_i, oGe_i, oNeg_i, oEq_d, oNe_d, oEq_s, oNe_s, oAddI_i, bLen_fl, bLen_tup, bMax2_i, bMin2_i, List.length_cons, List.length_nil, List.length_map, Nat.zero_add, Nat.reduceAdd, Nat.reduceLT, big_lit0, big_lit1, big_lit2, big_lit3, big_lit4, if_true, if_false, List.set_cons_zero, List.set_cons_succ, decide_true, decide_false, Bool.not_true, Bool.not_false, Bool.false_eq_true, Bool.true_eq_false, decide_eq_true_eq, endF_ret, endF_nx, endF_exc, pAt_int, pNo_e, dSl_e, newL_e, cast0, cast1, cast2, cast3, cast4, cast5, t1, tcost, dLst_e, List.append_assoc, List.length_append]; rfl)]
      rw [seq_nx (ρ1 := [some TW, some (.ref (h.length + 1)), none, none, none]) (h1 := h0) (by
        simp only [sSeq_t, then_nx, then_ret, then_bk, then_ct, then_exc, sAsg_e, sIf_e, sRet_e, sRetN_e, sExp_e, sNx_e, sBrk_e, sCnt_e, sRaise_e, sFor_e, onR_ok, onR_exc, onO_some, run_n, run_t, runs_nil, runs_cons, Option.bind_some, dV_0, dV_1, dV_2, dV_3, dV_4, dV_5, dV_6, dV_7, dV_8, dV_9, dV_10, dV_11, dV_12, dV_13, dV_14, dV_15, dV_16, dC_e, dBin_e, dUn_e, dAnd_e, dOr_e, dNot_e, tVal_e, tAnd_e, tOr_e, tNot_e, dIf_e, dCall_e, aNil_e, aCons_e, dTup_e, Res.bind_ok, Res.bind_exc, asB_b, oAdd_i, oSub_i, oLt_i, oLe_i, oGt_i, oGe_i, oNeg_i, oEq_d, oNe_d, oEq_s, oNe_s, oAddI_i, bLen_fl, bLen_tup, bMax2_i, bMin2_i, List.length_cons, List.length_nil, List.length_map, Nat.zero_add, Nat.reduceAdd, Nat.reduceLT, big_lit0, big_lit1, big_lit2, big_lit3, big_lit4, if_true, if_false, List.set_cons_zero, List.set_cons_succ, decide_true, decide_false, Bool.not_true, Bool.not_false, Bool.false_eq_true, Bool.true_eq_false, decide_eq_true_eq, endF_ret, endF_nx, endF_exc, pAt_int, pNo_e, dSl_e, newL_e, cast0, cast1, cast2, cast3, cast4, cast5, t0, kindOf, nf])]
      rw [seq_nx (ρ1 := [some TW, some (.ref (h.length + 1)), some (.fl (A.map (rgW B))), none, none]) (h1 := h0) (by
        rw [sAsg_e, dGz_e]; simp only [sSeq_t, then_nx, then_ret, then_bk, then_ct, then_exc, sAsg_e, sIf_e, sRet_e, sRetN_e, sExp_e, sNx_e, sBrk_e, sCnt_e, sRaise_e, sFor_e, onR_ok, onR_exc, onO_some, run_n, run_t, runs_nil, runs_cons, Option.bind_some, dV_0, dV_1, dV_2, dV_3, dV_4, dV_5, dV_6, dV_7, dV_8, dV_9, dV_10, dV_11, dV_12, dV_13, dV_14, dV_15, dV_16, dC_e, dBin_e, dUn_e, dAnd_e, dOr_e, dNot_e, tVal_e, tAnd_e, tOr_e, tNot_e, dIf_e, dCall_e, aNil_e, aCons_e, dTup_e, Res.bind_ok, Res.bind_exc, asB_b, oAdd_i, oSub_i, oLt_i, oLe_i, oGt_i, oGe_i, oNeg_i, oEq_d, oNe_d, oEq_s, oNe_s, oAddI_i, bLen_fl, bLen_tup, bMax2_i, bMin2_i, List.length_cons, List.length_nil, List.length_map, Nat.zero_add, Nat.reduceAdd, Nat.reduceLT, big_lit0, big_lit1, big_lit2, big_lit3, big_lit4, if_true, if_false, List.set_cons_zero, List.set_cons_succ, decide_true, decide_false, Bool.not_true, Bool.not_false, Bool.false_eq_true, Bool.true_eq_false, decide_eq_true_eq, endF_ret, endF_nx, endF_exc, pAt_int, pNo_e, dSl_e, newL_e, cast0, cast1, cast2, cast3, cast4, cast5, t2, gA])]
      rw [seq_nx (ρ1 := [some TW, some (.ref (h.length + 1)), some (.fl (A.map (rgW B))), some (.fl (C.map (rgW B))), none]) (h1 := h0) (by
        rw [sAsg_e, dGz_e]; simp only [sSeq_t, then_nx, then_ret, then_bk, then_ct, then_exc, sAsg_e, sIf_e, sRet_e, sRetN_e, sExp_e, sNx_e, sBrk_e, sCnt_e, sRaise_e, sFor_e, onR_ok, onR_exc, onO_some, run_n, run_t, runs_nil, runs_cons, Option.bind_some, dV_0, dV_1, dV_2, dV_3, dV_4, dV_5, dV_6, dV_7, dV_8, dV_9, dV_10, dV_11, dV_12, dV_13, dV_14, dV_15, dV_16, dC_e, dBin_e, dUn_e, dAnd_e, dOr_e, dNot_e, tVal_e, tAnd_e, tOr_e, tNot_e, dIf_e, dCall_e, aNil_e, aCons_e, dTup_e, Res.bind_ok, Res.bind_exc, asB_b, oAdd_i, oSub_i, oLt_i, oLe_i, oGt_i, oGe_i, oNeg_i, oEq_d, oNe_d, oEq_s, oNe_s, oAddI_i, bLen_fl, bLen_tup, bMax2_i, bMin2_i, List.length_cons, List.length_nil, List.length_map, Nat.zero_add, Nat.reduceAdd, Nat.reduceLT, big_lit0, big_lit1, big_lit2, big_lit3, big_lit4, if_true, if_false, List.set_cons_zero, List.set_cons_succ, decide_true, decide_false, Bool.not_true, Bool.not_false, Bool.false_eq_true, Bool.true_eq_false, decide_eq_true_eq, endF_ret, endF_nx, endF_exc, pAt_int, pNo_e, dSl_e, newL_e, cast0, cast1, cast2, cast3, cast4, cast5, t3, gC])]
      have rg : iRng2 (dC (.int 2)) (dBin oAdd (dBin oAdd (dCall bLen (aCons (dV 2) (aNil))) (dCall bLen (aCons (dV 3) (aNil)))) (dC (.int 1))) [some TW, some (.ref (h.length + 1)), some (.fl (A.map (rgW B))), some (.fl (C.map (rgW B))), none] h0 = .ok (rngW 2 (A.length + C.length - 1), []) h0 := by
        rw [iRng2_e (i := 2) (j := (A.length : Int) + C.length + 1) rfl (by simp only [sSeq_t, then_nx, then_ret, then_bk, then_ct, then_exc, sAsg_e, sIf_e, sRet_e, sRetN_e, sExp_e, sNx_e, sBrk_e, sCnt_e, sRaise_e, sFor_e, onR_ok, onR_exc, onO_some, run_n, run_t, runs_nil, runs_cons, Option.bind_some, dV_0, dV_1, dV_2, dV_3, dV_4, dV_5, dV_6, dV_7, dV_8, dV_9, dV_10, dV_11, dV_12, dV_13, dV_14, dV_15, dV_16, dC_e, dBin_e, dUn_e, dAnd_e, dOr_e, dNot_e, tVal_e, tAnd_e, tOr_e, tNot_e, dIf_e, dCall_e, aNil_e, aCons_e, dTup_e, Res.bind_ok, Res.bind_exc, asB_b, oAdd_i, oSub_i, oLt_i, oLe_i, oGt_i, oGe_i, oNeg_i, oEq_d, oNe_d, oEq_s, oNe_s, oAddI_i, bLen_fl, bLen_tup, bMax2_i, bMin2_i, List.length_cons, List.length_nil, List.length_map, Nat.zero_add, Nat.reduceAdd, Nat.reduceLT, big_lit0, big_lit1, big_lit2, big_lit3, big_lit4, if_true, if_false, List.set_cons_zero, List.set_cons_succ, decide_true, decide_false, Bool.not_true, Bool.not_false, Bool.false_eq_true, Bool.true_eq_false, decide_eq_true_eq, endF_ret, endF_nx, endF_exc, pAt_int, pNo_e, dSl_e, newL_e, cast0, cast1, cast2, cast3, cast4, cast5]) (by omega) (by omega)]
        rw [show ((A.length : Int) + C.length + 1 - 2).toNat = A.length + C.length - 1 by omega]
      rw [seq_nx (by rw [sFor_e, rg, onR_ok]; exact e)]
      rfl
end Law
end PF
namespace PF
namespace Law
theorem trW_inj : ∀ {t u : Tr}, trW t = trW u → t = u
  | .en a, .en b, e => by
    rw [trW, trW] at e
    simp at e
    rw [e]
  | .en a, .fk b u v, e => by
    rw [trW, trW] at e
    simp at e
  | .fk a t s, .en b, e => by
    rw [trW, trW] at e
    simp at e
  | .fk a t s, .fk b u v, e => by
    rw [trW, trW] at e
    simp only [W.tup.injEq, List.cons.injEq, W.int.injEq, true_and, and_true] at e
    rw [e.1, trW_inj e.2.1, trW_inj e.2.2]
theorem oNe_tr (t u : Tr) (ht : t.high < 50) (hu : u.high < 50) (h : Hs) : oNe (trW t) (trW u) h = .ok (.bl (!decide (trW t = trW u))) h := by
  have lt : W.pl 51 (trW t) = true := pl_le _ _ _ (by omega) (trW_pl t)
  have lu : W.pl 51 (trW u) = true := pl_le _ _ _ (by omega) (trW_pl u)
  exact oNe_pl (n := 51) (by decide) lt lu
theorem handed_e (g : Int → W) (B : Int) (hg : ∀ (c : Int) (h : Hs), f__law_ratio [.int c, .int B] h = .ok (g c) h) (pg : ∀ c, (g c).pure = true) : ∀ (t : Tr) (n : Nat) (h : Hs), t.high < n → t.high < 50 → f__law_handed n [trW t, .int B] h = .ok (trF g t) h
  | .en c, n + 1, h, _, _ => by
    rw [f__law_handed_e]
    unfold b__law_handed
    have t0 : ∀ h, oIx (trW (.en c)) (.int 0) h = .ok (.str tEnd) h := fun h => oIx_t0
    have t1 : ∀ h, oIx (trW (.en c)) (.int 1) h = .ok (.int c) h := fun h => oIx_t1
    have e1 : sIf (tVal (dBin oEq (dBin oIx (dV 0) (dC (.int 0))) (dC (.str [101, 110, 100])))) (sRet (dTup (aCons (dC (.str [101, 110, 100])) (aCons (dCall f__law_ratio (aCons (dBin oIx (dV 0) (dC (.int 1))) (aCons (dV 1) (aNil)))) (aNil))))) (sNx) [some (trW (.en c)), some (.int B), none, none] h = .ret (trF g (.en c)) h := by
      simp [t0, t1, hg, trF]
    rw [sSeq_t, e1]
    have : (trF g (.en c)).pure = true := trF_pure pg _
    simp [this, gc_same]
  | .fk c t u, n + 1, h, hn, hb => by
    rw [f__law_handed_e]
    unfold b__law_handed
    have hh : (Tr.fk c t u).high = 1 + max t.high u.high := rfl
    rw [hh] at hn hb
    have t0 : ∀ h, oIx (trW (.fk c t u)) (.int 0) h = .ok (.str tFork) h := fun h => oIx_t0
    have t1 : ∀ h, oIx (trW (.fk c t u)) (.int 1) h = .ok (.int c) h := fun h => oIx_t1
    have t2 : ∀ h, oIx (trW (.fk c t u)) (.int 2) h = .ok (trW t) h := fun h => oIx_tup (k := 2) rfl
    have t3 : ∀ h, oIx (trW (.fk c t u)) (.int 3) h = .ok (trW u) h := fun h => oIx_tup (k := 3) rfl
    have nf : decide (tFork = tEnd) = false := by decide
    have r1 := handed_e g B hg pg t n h (by omega) (by omega)
    have r2 := handed_e g B hg pg u n h (by omega) (by omega)
    rw [seq_nx (ρ1 := [some (trW (.fk c t u)), some (.int B), none, none]) (h1 := h) (by
      simp only [sIf_e, tVal_e, dBin_e, dV_0, dC_e, Res.bind_ok, t0, oEq_s, nf, asB_b, onR_ok, Bool.false_eq_true, if_false, sNx_e])]
    rw [seq_nx (ρ1 := [some (trW (.fk c t u)), some (.int B), some (trF g t), none]) (h1 := h) (by
      simp only [sAsg_e, dCall_e, aCons_e, aNil_e, dBin_e, dV_0, dV_1, dC_e, Res.bind_ok, t2, r1]; rfl)]
    rw [seq_nx (ρ1 := [some (trW (.fk c t u)), some (.int B), some (trF g t), some (trF g t)]) (h1 := h) (by
      simp only [sAsg_e, dV_2]; rfl)]
    rw [seq_nx (ρ1 := [some (trW (.fk c t u)), some (.int B), some (trF g t), some (trF g u)]) (h1 := h) (by
      have ne := oNe_tr u t (by omega) (by omega) h
      simp only [sIf_e, tVal_e, dBin_e, dV_0, dC_e, Res.bind_ok, t2, t3, ne, asB_b, onR_ok]
      by_cases e : trW u = trW t
      · have e := trW_inj e
        subst e
        simp
      · simp only [e, decide_false, Bool.not_false, if_true, sAsg_e, dCall_e, aCons_e, aNil_e, dBin_e, dV_0, dV_1, dC_e, Res.bind_ok, t3, r2]
        rfl)]
    have er : sRet (dTup (aCons (dC (.str [102, 111, 114, 107])) (aCons (dCall f__law_ratio (aCons (dBin oIx (dV 0) (dC (.int 1))) (aCons (dV 1) (aNil)))) (aCons (dV 2) (aCons (dV 3) (aNil)))))) [some (trW (.fk c t u)), some (.int B), some (trF g t), some (trF g u)] h = .ret (trF g (.fk c t u)) h := by
      simp only [sRet_e, dTup_e, aCons_e, aNil_e, dCall_e, dBin_e, dV_0, dV_1, dV_2, dV_3, dC_e, Res.bind_ok, t1, hg, List.length_cons, List.length_nil, Nat.zero_add, Nat.reduceAdd]
      rfl
    rw [er, endF_ret]
    exact gc_pure (e := []) (trF_pure pg _) |> fun x => by rw [List.append_nil] at x; exact x
end Law
end PF
namespace PF
namespace Law
theorem comp_l1 {α : Type} {it : I} {tg : Tg} {e : D} {own : List Nat} {ρ : Env} {h h1 : Hs} {g : List (W × List W)} (enc f : α → W) (xs : List α) (hit : it ρ h = .ok (xs.map enc, g) h1) (hg : ∀ acc, stays g (h1 ++ [.lst acc]) = true) (hb : xs.length ≤ bigL)
    (he : ∀ x, x ∈ xs → ∃ ρ1, tg.run (enc x) (wipe ρ own) = some ρ1 ∧ ∀ acc, e ρ1 (h1 ++ [.lst acc]) = .ok (f x) (h1 ++ [.lst acc])) :
    dComp it tg tYes e own ρ h = .ok (.ref h1.length) (h1 ++ [.lst (xs.map f)]) := by
  have := comp_lm (it := fun _ _ => .ok (xs.map enc, g) h1) (tg := tg) (e := e) (own := own) (ρ := ρ) (h := h1) enc f xs rfl hg hb he
  unfold dComp at this ⊢
  rw [hit]
  exact this
def ldW (u : (Rat × Nat) × Nat) : W := .tup [.int ((u.2 : Int) + 1), rat u.1.1, .ref u.1.2]
theorem enum_zip (us : List (Rat × Nat)) : enumW 0 (us.map lvW) = us.zipIdx.map fun x => .tup [.int (x.2 : Nat), lvW x.1] := by
  refine List.ext_getElem? fun i => ?_
  rw [enumW_at, List.getElem?_map, List.getElem?_map, List.getElem?_zipIdx, Option.map_map]
  cases us[i]? with
  | none => rfl
  | some u => simp
theorem ladder_e {B : Int} (hB : 0 < B ∧ B < 2 ^ 100) (t : Tr) (hh : t.high < 50) (hl : t.leaves ≤ 100) (tc : t.costs (2 ^ 105)) : ∃ R, Rows t R ∧ ∀ h, ∃ e us d, f_ladder [trF (fun c => rat (Rat.divInt c B)) t] h = .ok (.ref d) (h ++ e) ∧ h.length ≤ d ∧ (h ++ e)[d]? = some (.lst (us.zipIdx.map ldW)) ∧ Live (h ++ e) h.length d B R us := by
  obtain ⟨R, ra, q⟩ := rungs_e hB t 64 (by omega) hh hl tc
  refine ⟨R, ra, fun h => ?_⟩
  obtain ⟨e, us, q1, q2, q3⟩ := q h
  have ul : us.length ≤ 100 := by rw [q3.len, ra.len]; omega
  have it : iEnum (dCall (f_rungs 64) (aCons (dV 0) (aNil))) [some (trF (fun c => rat (Rat.divInt c B)) t), none, none] h = .ok (us.zipIdx.map fun x => .tup [.int (x.2 : Nat), lvW x.1], [(.ref (h.length + 1), us.map lvW)]) (h ++ e) := by
    unfold iEnum
    simp only [dCall_e, aCons_e, aNil_e, dV_0, Res.bind_ok, q1, lstOf_ref q2, enum_zip]
  have cm := comp_l1 (tg := .t [.n 1, .n 2]) (e := dTup (aCons (dBin oAdd (dV 1) (dC (.int 1))) (aCons (dBin oIx (dV 2) (dC (.int 0))) (aCons (dBin oIx (dV 2) (dC (.int 1))) (aNil))))) (own := [1, 2]) (fun x : (Rat × Nat) × Nat => .tup [.int (x.2 : Nat), lvW x.1]) ldW us.zipIdx it (fun acc => by
    refine stays_at ?_
    rw [List.getElem?_append_left (List.getElem?_eq_some_iff.mp q2).1]
    exact q2) (by rw [List.length_zipIdx]; unfold bigL; omega) (fun x _ => by
    refine ⟨[some (trF (fun c => rat (Rat.divInt c B)) t), some (.int (x.2 : Nat)), some (lvW x.1)], rfl, fun acc => ?_⟩
    have i0 : ∀ h, oIx (lvW x.1) (.int 0) h = .ok (rat x.1.1) h := fun h => oIx_t0
    have i1 : ∀ h, oIx (lvW x.1) (.int 1) h = .ok (.ref x.1.2) h := fun h => oIx_t1
    simp only [sSeq_t, then_nx, then_ret, then_bk, then_ct, then_exc, sAsg_e, sIf_e, sRet_e, sRetN_e, sExp_e, sNx_e, sBrk_e, sCnt_e, sRaise_e, sFor_e, onR_ok, onR_exc, onO_some, run_n, run_t, runs_nil, runs_cons, Option.bind_some, dV_0, dV_1, dV_2, dV_3, dV_4, dV_5, dV_6, dV_7, dV_8, dV_9, dV_10, dV_11, dV_12, dV_13, dV_14, dV_15, dV_16, dC_e, dBin_e, dUn_e, dAnd_e, dOr_e, dNot_e, tVal_e, tAnd_e, tOr_e, tNot_e, dIf_e, dCall_e, aNil_e, aCons_e, dTup_e, Res.bind_ok, Res.bind_exc, asB_b, oAdd_i, oSub_i, oLt_i, oLe_i, oGt_i, oGe_i, oNeg_i, oEq_d, oNe_d, oEq_s, oNe_s, oAddI_i, bLen_fl, bLen_tup, bMax2_i, bMin2_i, List.length_cons, List.length_nil, List.length_map, Nat.zero_add, Nat.reduceAdd, Nat.reduceLT, big_lit0, big_lit1, big_lit2, big_lit3, big_lit4, if_true, if_false, List.set_cons_zero, List.set_cons_succ, decide_true, decide_false, Bool.not_true, Bool.not_false, Bool.false_eq_true, Bool.true_eq_false, decide_eq_true_eq, endF_ret, endF_nx, endF_exc, pAt_int, pNo_e, dSl_e, newL_e, cast0, cast1, cast2, cast3, cast4, cast5, i0, i1]
    rfl)
  refine ⟨e ++ [.lst (us.zipIdx.map ldW)], us, (h ++ e).length, ?_, by simp, ?_, ?_⟩
  · rw [f_ladder_e]
    unfold b_ladder
    rw [sRet_e, cm, onR_ok, endF_ret, List.append_assoc]
  · rw [← List.append_assoc, List.getElem?_append_right (Nat.le_refl _), Nat.sub_self]
    rfl
  · rw [← List.append_assoc]
    have m := q3.more (e := [.lst (us.zipIdx.map ldW)])
    refine ⟨m.len, fun k r hr => ?_⟩
    obtain ⟨j, j1, j2, j3, j4⟩ := m.at_ k r hr
    refine ⟨j, j1, ?_, j3, j4⟩
    rintro rfl
    -- the places are texts, the ladder holds tuples
    obtain ⟨i, i1, i2, i3, i4⟩ := q3.at_ k r hr
    rw [i3] at j3
    cases j3
    have := (List.getElem?_eq_some_iff.mp i4).1
    omega
/-- as a value -/
def rdW (B : Int) (x : Rg × Nat) : W := .tup [.int ((x.2 : Int) + 1), rat (Rat.divInt x.1.1 B), .fl (x.1.2.map W.str)]
theorem mapO_ld {h : Hs} {b d n : Nat} {B : Int} : ∀ {R : List Rg} {us : List (Rat × Nat)} (m : Nat), Live h b d B R us → mapO (fzW h b (n + 2)) ((us.zipIdx m).map ldW) = some ((R.zipIdx m).map (rdW B))
  | [], us, m, l => by
    have : us = [] := List.length_eq_zero_iff.mp l.len
    rw [this]; rfl
  | r :: R, [], m, l => by have := l.len; simp at this
  | r :: R, u :: us, m, l => by
    obtain ⟨j, j1, j2, j3, j4⟩ := l.at_ 0 r rfl
    have j3 : u = (Rat.divInt r.1 B, j) := by simpa using j3
    have ih := mapO_ld (n := n) (R := R) (us := us) (m + 1) ⟨by have := l.len; simpa using this, fun k s hs => by
      have := l.at_ (k + 1) s (by simpa using hs)
      simpa using this⟩
    rw [List.zipIdx_cons, List.zipIdx_cons, List.map_cons, mapO, ih]
    have e : fzW h b (n + 2) (ldW (u, m)) = some (rdW B (r, m)) := by
      have f := fz_ref (h' := h) (n := b) (d := n) (i := j) (ws := r.2.map W.str) j1 j4 (strs_pure _)
      have g := fz_pure (h := h) (n := b) (d := n + 1) (rat_pure (Rat.divInt r.1 B))
      have k := fz_pure (h := h) (n := b) (d := n + 1) (w := .int ((m : Int) + 1)) rfl
      rw [j3]
      unfold ldW rdW fzW
      simp [f, g, k]
    rw [e]; rfl
theorem ladder_gz {B : Int} {t : Tr} {R : List Rg} {h e : Hs} {us : List (Rat × Nat)} {d : Nat} (hd : h.length ≤ d) (ed : (h ++ e)[d]? = some (.lst (us.zipIdx.map ldW))) (l : Live (h ++ e) h.length d B R us) : gc h (.ok (.ref d) (h ++ e)) = .ok (.fl (R.zipIdx.map (rdW B))) h := by
  unfold PF.gc
  dsimp only
  rw [if_pos (tame_app h e)]
  have hn : ¬ d < h.length := by omega
  have m := mapO_ld (n := 57) 0 l
  have : fzW (h ++ e) h.length 60 (.ref d) = some (.fl (R.zipIdx.map (rdW B))) := by
    show fzW (h ++ e) h.length (57 + 2 + 1) (.ref d) = _
    unfold fzW
    simp only [pure_ref, Bool.false_eq_true, if_false, if_neg hn, ed, m, Option.map_some]
  rw [this]
  dsimp only
  rw [List.take_left]
end Law
end PF
namespace PF
namespace Law
theorem lnext_e (c k : Int) (hk : 0 ≤ k ∧ k < 1000) (h : Hs) : ∃ z, f__law_next [.int c, .int k] h = .ok (.int z) h := by
  rw [f__law_next_e]
  unfold b__law_next
  have m1 : ∀ h, oMul (.int 21350) (.int k) h = .ok (.int (21350 * k)) h := fun h => oMul_i (mulOK_r (by omega))
  have m2 : ∀ h, oMul (.int c) (.int (48271 + 21350 * k)) h = .ok (.int (c * (48271 + 21350 * k))) h := fun h => oMul_i (mulOK_r (by omega))
  have m3 : ∀ z h, oMod (.int z) (.int 2147483647) h = .ok (.int (z % 2147483647)) h := fun z h => oModP (by omega)
  refine ⟨(c * (48271 + 21350 * k) + 12345 + k) % 2147483647, ?_⟩
  simp only [sSeq_t, then_nx, then_ret, then_bk, then_ct, then_exc, sAsg_e, sIf_e, sRet_e, sRetN_e, sExp_e, sNx_e, sBrk_e, sCnt_e, sRaise_e, sFor_e, onR_ok, onR_exc, onO_some, run_n, run_t, runs_nil, runs_cons, Option.bind_some, dV_0, dV_1, dV_2, dV_3, dV_4, dV_5, dV_6, dV_7, dV_8, dV_9, dV_10, dV_11, dV_12, dV_13, dV_14, dV_15, dV_16, dC_e, dBin_e, dUn_e, dAnd_e, dOr_e, dNot_e, tVal_e, tAnd_e, tOr_e, tNot_e, dIf_e, dCall_e, aNil_e, aCons_e, dTup_e, Res.bind_ok, Res.bind_exc, asB_b, oAdd_i, oSub_i, oLt_i, oLe_i, oGt_i, oGe_i, oNeg_i, oEq_d, oNe_d, oEq_s, oNe_s, oAddI_i, bLen_fl, bLen_tup, bMax2_i, bMin2_i, List.length_cons, List.length_nil, List.length_map, Nat.zero_add, Nat.reduceAdd, Nat.reduceLT, big_lit0, big_lit1, big_lit2, big_lit3, big_lit4, if_true, if_false, List.set_cons_zero, List.set_cons_succ, decide_true, decide_false, Bool.not_true, Bool.not_false, Bool.false_eq_true, Bool.true_eq_false, decide_eq_true_eq, endF_ret, endF_nx, endF_exc, pAt_int, pNo_e, dSl_e, newL_e, cast0, cast1, cast2, cast3, cast4, cast5, m1, m2, m3]
  exact gc_same _
theorem drawn2_e : ∀ (t : Tr) (n : Nat) (p : List Nat) (c : Int) (h : Hs), t.high < n → p.length + t.high < 1000 → t.leaves < 1000 → ∃ L s, CutS t p L s ∧ f__law_drawn n [trW t, .str p, .int c] h = .ok (.fl (L.map W.str)) h
  | .en x, n + 1, p, c, h, _, _, _ => by
    refine ⟨[p], _, .here _ _, ?_⟩
    rw [f__law_drawn_e]
    unfold b__law_drawn
    have t0 : ∀ h, oIx (trW (.en x)) (.int 0) h = .ok (.str [101, 110, 100]) h := fun h => oIx_t0
    have m3 : ∀ h, oMod (.int c) (.int 3) h = .ok (.int (c % 3)) h := fun h => oModP (by omega)
    have lz : dGz (dLst (aCons (dV 1) (aNil))) [some (trW (.en x)), some (.str p), some (.int c), none] h = .ok (.fl [.str p]) h := lst_gz rfl (by simp) rfl
    generalize trW (.en x) = TW at *
    simp only [sSeq_t, then_nx, then_ret, then_bk, then_ct, then_exc, sAsg_e, sIf_e, sRet_e, sRetN_e, sExp_e, sNx_e, sBrk_e, sCnt_e, sRaise_e, sFor_e, onR_ok, onR_exc, onO_some, run_n, run_t, runs_nil, runs_cons, Option.bind_some, dV_0, dV_1, dV_2, dV_3, dV_4, dV_5, dV_6, dV_7, dV_8, dV_9, dV_10, dV_11, dV_12, dV_13, dV_14, dV_15, dV_16, dC_e, dBin_e, dUn_e, dAnd_e, dOr_e, dNot_e, tVal_e, tAnd_e, tOr_e, tNot_e, dIf_e, dCall_e, aNil_e, aCons_e, dTup_e, Res.bind_ok, Res.bind_exc, asB_b, oAdd_i, oSub_i, oLt_i, oLe_i, oGt_i, oGe_i, oNeg_i, oEq_d, oNe_d, oEq_s, oNe_s, oAddI_i, bLen_fl, bLen_tup, bMax2_i, bMin2_i, List.length_cons, List.length_nil, List.length_map, Nat.zero_add, Nat.reduceAdd, Nat.reduceLT, big_lit0, big_lit1, big_lit2, big_lit3, big_lit4, if_true, if_false, List.set_cons_zero, List.set_cons_succ, decide_true, decide_false, Bool.not_true, Bool.not_false, Bool.false_eq_true, Bool.true_eq_false, decide_eq_true_eq, endF_ret, endF_nx, endF_exc, pAt_int, pNo_e, dSl_e, newL_e, cast0, cast1, cast2, cast3, cast4, cast5, t0, m3, lz]
    exact gc_same _
  | .fk x t u, n + 1, p, c, h, hn, hp, hl => by
    rw [f__law_drawn_e]
    unfold b__law_drawn
    have hh : (Tr.fk x t u).high = 1 + max t.high u.high := rfl
    have hv : (Tr.fk x t u).leaves = t.leaves + u.leaves := rfl
    rw [hh] at hn hp
    rw [hv] at hl
    have t0 : ∀ h, oIx (trW (.fk x t u)) (.int 0) h = .ok (.str [102, 111, 114, 107]) h := fun h => oIx_t0
    have t2 : ∀ h, oIx (trW (.fk x t u)) (.int 2) h = .ok (trW t) h := fun h => oIx_tup (k := 2) rfl
    have t3 : ∀ h, oIx (trW (.fk x t u)) (.int 3) h = .ok (trW u) h := fun h => oIx_tup (k := 3) rfl
    have nf : ¬ ([102, 111, 114, 107] : List Nat) = [101, 110, 100] := by decide
    have m3 : ∀ h, oMod (.int c) (.int 3) h = .ok (.int (c % 3)) h := fun h => oModP (by omega)
    by_cases k : c % 3 = 0
    · refine ⟨[p], _, .here _ _, ?_⟩
      have lz : dGz (dLst (aCons (dV 1) (aNil))) [some (trW (.fk x t u)), some (.str p), some (.int c), none] h = .ok (.fl [.str p]) h := lst_gz rfl (by simp) rfl
      generalize trW (.fk x t u) = TW at *
      simp only [sSeq_t, then_nx, then_ret, then_bk, then_ct, then_exc, sAsg_e, sIf_e, sRet_e, sRetN_e, sExp_e, sNx_e, sBrk_e, sCnt_e, sRaise_e, sFor_e, onR_ok, onR_exc, onO_some, run_n, run_t, runs_nil, runs_cons, Option.bind_some, dV_0, dV_1, dV_2, dV_3, dV_4, dV_5, dV_6, dV_7, dV_8, dV_9, dV_10, dV_11, dV_12, dV_13, dV_14, dV_15, dV_16, dC_e, dBin_e, dUn_e, dAnd_e, dOr_e, dNot_e, tVal_e, tAnd_e, tOr_e, tNot_e, dIf_e, dCall_e, aNil_e, aCons_e, dTup_e, Res.bind_ok, Res.bind_exc, asB_b, oAdd_i, oSub_i, oLt_i, oLe_i, oGt_i, oGe_i, oNeg_i, oEq_d, oNe_d, oEq_s, oNe_s, oAddI_i, bLen_fl, bLen_tup, bMax2_i, bMin2_i, List.length_cons, List.length_nil, List.length_map, Nat.zero_add, Nat.reduceAdd, Nat.reduceLT, big_lit0, big_lit1, big_lit2, big_lit3, big_lit4, if_true, if_false, List.set_cons_zero, List.set_cons_succ, decide_true, decide_false, Bool.not_true, Bool.not_false, Bool.false_eq_true, Bool.true_eq_false, decide_eq_true_eq, endF_ret, endF_nx, endF_exc, pAt_int, pNo_e, dSl_e, newL_e, cast0, cast1, cast2, cast3, cast4, cast5, t0, nf, m3, k, lz]
      exact gc_same _
    · obtain ⟨c0, ec0⟩ := lnext_e c 0 (by omega) h
      obtain ⟨c1, ec1⟩ := lnext_e c 1 (by omega) h
      obtain ⟨B, b, cB, eB⟩ := drawn2_e u n (p ++ sN) c0 h (by omega) (by simp; omega) (by omega)
      obtain ⟨A, a, cA, eA⟩ := drawn2_e t n (p ++ sY) c1 h (by omega) (by simp; omega) (by omega)
      refine ⟨B ++ A, _, .split cA cB, ?_⟩
      have pY : ∀ h, oAdd (.str p) (.str [121]) h = .ok (.str (p ++ sY)) h := fun h => oAdd_str (by simp [bigL]; omega)
      have pN : ∀ h, oAdd (.str p) (.str [110]) h = .ok (.str (p ++ sN)) h := fun h => oAdd_str (by simp [bigL]; omega)
      have la := cA.cut.len
      have lb := cB.cut.len
      have ad : ∀ h, oAdd (.fl (B.map W.str)) (.fl (A.map W.str)) h = newL ((B ++ A).map W.str) h := fun h => by
        rw [oAdd_flfl (by simp [bigL]; omega), List.map_append]
      have pu := strs_pure (B ++ A)
      generalize trW (.fk x t u) = TW at *
      generalize trW t = TY at *
      generalize trW u = TN at *
      generalize A.map W.str = AW at *
      generalize B.map W.str = BW at *
      generalize (B ++ A).map W.str = BA at *
      simp only [sSeq_t, then_nx, then_ret, then_bk, then_ct, then_exc, sAsg_e, sIf_e, sRet_e, sRetN_e, sExp_e, sNx_e, sBrk_e, sCnt_e, sRaise_e, sFor_e, onR_ok, onR_exc, onO_some, run_n, run_t, runs_nil, runs_cons, Option.bind_some, dV_0, dV_1, dV_2, dV_3, dV_4, dV_5, dV_6, dV_7, dV_8, dV_9, dV_10, dV_11, dV_12, dV_13, dV_14, dV_15, dV_16, dC_e, dBin_e, dUn_e, dAnd_e, dOr_e, dNot_e, tVal_e, tAnd_e, tOr_e, tNot_e, dIf_e, dCall_e, aNil_e, aCons_e, dTup_e, Res.bind_ok, Res.bind_exc, asB_b, oAdd_i, oSub_i, oLt_i, oLe_i, oGt_i, oGe_i, oNeg_i, oEq_d, oNe_d, oEq_s, oNe_s, oAddI_i, bLen_fl, bLen_tup, bMax2_i, bMin2_i, List.length_cons, List.length_nil, List.length_map, Nat.zero_add, Nat.reduceAdd, Nat.reduceLT, big_lit0, big_lit1, big_lit2, big_lit3, big_lit4, if_true, if_false, List.set_cons_zero, List.set_cons_succ, decide_true, decide_false, Bool.not_true, Bool.not_false, Bool.false_eq_true, Bool.true_eq_false, decide_eq_true_eq, endF_ret, endF_nx, endF_exc, pAt_int, pNo_e, dSl_e, newL_e, cast0, cast1, cast2, cast3, cast4, cast5, t0, nf, m3, k, t2, t3, pN, ec0, eB, pY, ec1, eA, ad]
      exact gc_newL pu
theorem sum_loop1 (h : Hs) (w0 w1 w2 w3 : Option W) : ∀ (q : List Nat) (t u : Tr) (a : Option W), sub t q = some u → ∃ a', forL [] (.n 5) L1__law_sum (q.map fun c => .str [c]) [w0, w1, w2, w3, some (trW t), a] h = .nx [w0, w1, w2, w3, some (trW u), a'] h
  | [], t, u, a, e => by
    rw [sub_nil] at e
    cases e
    exact ⟨a, rfl⟩
  | c :: q, .en _, u, a, e => by cases e
  | c :: q, .fk k t s, u, a, e => by
    rw [sub] at e
    have t2 : ∀ h, oIx (trW (.fk k t s)) (.int 2) h = .ok (trW t) h := fun h => oIx_tup (k := 2) rfl
    have t3 : ∀ h, oIx (trW (.fk k t s)) (.int 3) h = .ok (trW s) h := fun h => oIx_tup (k := 3) rfl
    have rn : Tg.run (.n 5) (.str [c]) [w0, w1, w2, w3, some (trW (.fk k t s)), a] = some [w0, w1, w2, w3, some (trW (.fk k t s)), some (.str [c])] := rfl
    rw [List.map_cons, forL, if_pos (by rfl), rn, onO_some]
    have b0 : ∀ h, bInt [.bl false] h = .ok (.int 0) h := fun h => rfl
    have b1 : ∀ h, bInt [.bl true] h = .ok (.int 1) h := fun h => rfl
    split at e
    · rename_i hc
      subst hc
      obtain ⟨a', ih⟩ := sum_loop1 h w0 w1 w2 w3 q t u (some (.str [121])) e
      refine ⟨a', ?_⟩
      have e0 : ([121] : List Nat) = [110] ↔ False := by decide
      have st : L1__law_sum [w0, w1, w2, w3, some (trW (.fk k t s)), some (.str [121])] h = .nx [w0, w1, w2, w3, some (trW t), some (.str [121])] h := by
        unfold L1__law_sum
        generalize trW (.fk k t s) = TW at *
        simp only [sSeq_t, then_nx, then_ret, then_bk, then_ct, then_exc, sAsg_e, sIf_e, sRet_e, sRetN_e, sExp_e, sNx_e, sBrk_e, sCnt_e, sRaise_e, sFor_e, onR_ok, onR_exc, onO_some, run_n, run_t, runs_nil, runs_cons, Option.bind_some, dV_0, dV_1, dV_2, dV_3, dV_4, dV_5, dV_6, dV_7, dV_8, dV_9, dV_10, dV_11, dV_12, dV_13, dV_14, dV_15, dV_16, dC_e, dBin_e, dUn_e, dAnd_e, dOr_e, dNot_e, tVal_e, tAnd_e, tOr_e, tNot_e, dIf_e, dCall_e, aNil_e, aCons_e, dTup_e, Res.bind_ok, Res.bind_exc, asB_b, oAdd_i, oSub_i, oLt_i, oLe_i, oGt_i, oGe_i, oNeg_i, oEq_d, oNe_d, oEq_s, oNe_s, oAddI_i, bLen_fl, bLen_tup, bMax2_i, bMin2_i, List.length_cons, List.length_nil, List.length_map, Nat.zero_add, Nat.reduceAdd, Nat.reduceLT, big_lit0, big_lit1, big_lit2, big_lit3, big_lit4, if_true, if_false, List.set_cons_zero, List.set_cons_succ, decide_true, decide_false, Bool.not_true, Bool.not_false, Bool.false_eq_true, Bool.true_eq_false, decide_eq_true_eq, endF_ret, endF_nx, endF_exc, pAt_int, pNo_e, dSl_e, newL_e, cast0, cast1, cast2, cast3, cast4, cast5, e0, b0, Int.add_zero, t2]
      rw [st]
      exact ih
    · split at e
      · rename_i hc
        subst hc
        obtain ⟨a', ih⟩ := sum_loop1 h w0 w1 w2 w3 q s u (some (.str [110])) e
        refine ⟨a', ?_⟩
        have st : L1__law_sum [w0, w1, w2, w3, some (trW (.fk k t s)), some (.str [110])] h = .nx [w0, w1, w2, w3, some (trW s), some (.str [110])] h := by
          unfold L1__law_sum
          have : (2 : Int) + 1 = 3 := rfl
          generalize trW (.fk k t s) = TW at *
          simp only [sSeq_t, then_nx, then_ret, then_bk, then_ct, then_exc, sAsg_e, sIf_e, sRet_e, sRetN_e, sExp_e, sNx_e, sBrk_e, sCnt_e, sRaise_e, sFor_e, onR_ok, onR_exc, onO_some, run_n, run_t, runs_nil, runs_cons, Option.bind_some, dV_0, dV_1, dV_2, dV_3, dV_4, dV_5, dV_6, dV_7, dV_8, dV_9, dV_10, dV_11, dV_12, dV_13, dV_14, dV_15, dV_16, dC_e, dBin_e, dUn_e, dAnd_e, dOr_e, dNot_e, tVal_e, tAnd_e, tOr_e, tNot_e, dIf_e, dCall_e, aNil_e, aCons_e, dTup_e, Res.bind_ok, Res.bind_exc, asB_b, oAdd_i, oSub_i, oLt_i, oLe_i, oGt_i, oGe_i, oNeg_i, oEq_d, oNe_d, oEq_s, oNe_s, oAddI_i, bLen_fl, bLen_tup, bMax2_i, bMin2_i, List.length_cons, List.length_nil, List.length_map, Nat.zero_add, Nat.reduceAdd, Nat.reduceLT, big_lit0, big_lit1, big_lit2, big_lit3, big_lit4, if_true, if_false, List.set_cons_zero, List.set_cons_succ, decide_true, decide_false, Bool.not_true, Bool.not_false, Bool.false_eq_true, Bool.true_eq_false, decide_eq_true_eq, endF_ret, endF_nx, endF_exc, pAt_int, pNo_e, dSl_e, newL_e, cast0, cast1, cast2, cast3, cast4, cast5, b1, this, t3]
        rw [st]
        exact ih
      · cases e
theorem Cut.sub {t : Tr} {L : List (List Nat)} (c : Cut t [] L) {q : List Nat} (hq : q ∈ L) : ∃ u, Law.sub t q = some u := by
  obtain ⟨k, hk⟩ := c.nodes q hq
  exact (sub_known t q).mp (List.mem_map.mpr ⟨_, hk, rfl⟩)
theorem sum_loop2 (t : Tr) (w1 : Option W) (g : List (W × List W)) (h : Hs) (hg : stays g h = true) : ∀ (L : List (List Nat)) (x : Int) (a b c : Option W), (∀ q, q ∈ L → ∃ u, sub t q = some u) → ∃ a' b' c', forL g (.n 3) L2__law_sum (L.map W.str) [some (trW t), w1, some (.int x), a, b, c] h = .nx [some (trW t), w1, some (.int (x + costL t L)), a', b', c'] h
  | [], x, a, b, c, _ => ⟨a, b, c, by simp [forL, hg, costL]⟩
  | q :: L, x, a, b, c, hL => by
    obtain ⟨u, hu⟩ := hL q (List.mem_cons_self ..)
    obtain ⟨c', e1⟩ := sum_loop1 h (some (trW t)) w1 (some (.int x)) (some (.str q)) q t u c hu
    obtain ⟨a', b', c2, e2⟩ := sum_loop2 t w1 g h hg L (x + costAt t q) (some (.str q)) (some (trW u)) c' fun r hr => hL r (List.mem_cons_of_mem _ hr)
    refine ⟨a', b', c2, ?_⟩
    have ce : costAt t q = tcost u := by unfold costAt; rw [hu]; cases u <;> rfl
    have cl : costL t (q :: L) = costAt t q + costL t L := by simp [costL]
    have rn : Tg.run (.n 3) (.str q) [some (trW t), w1, some (.int x), a, b, c] = some [some (trW t), w1, some (.int x), some (.str q), b, c] := rfl
    have i1 := trW_1' u
    have st : L2__law_sum [some (trW t), w1, some (.int x), some (.str q), b, c] h = .nx [some (trW t), w1, some (.int (x + costAt t q)), some (.str q), some (trW u), c'] h := by
      unfold L2__law_sum
      rw [seq_nx (ρ1 := [some (trW t), w1, some (.int x), some (.str q), some (trW t), c]) (h1 := h) (by simp only [sAsg_e, dV_0]; rfl)]
      rw [seq_nx (by rw [sFor_e, iAny_str (h1 := h) rfl, onR_ok]; exact e1)]
      rw [ce]
      simp only [sAug, dBin_e, dV_4, dC_e, Res.bind_ok, i1]
      rfl
    rw [List.map_cons, forL, if_pos hg, rn, onO_some, st, cl, ← Int.add_assoc]
    exact e2
theorem sum_e {t : Tr} {L : List (List Nat)} (c : Cut t [] L) {w : W} {h : Hs} (l : Lw w (L.map W.str) h) : f__law_sum [trW t, w] h = .ok (.int (costL t L)) h := by
  rw [f__law_sum_e]
  unfold b__law_sum
  obtain ⟨a, b, d, e⟩ := sum_loop2 t (some w) [(w, L.map W.str)] h l.st0 L 0 none none none fun q hq => c.sub hq
  rw [Int.zero_add] at e
  rw [seq_nx (ρ1 := [some (trW t), some w, some (.int 0), none, none, none]) (h1 := h) (by simp only [sSeq_t, then_nx, then_ret, then_bk, then_ct, then_exc, sAsg_e, sIf_e, sRet_e, sRetN_e, sExp_e, sNx_e, sBrk_e, sCnt_e, sRaise_e, sFor_e, onR_ok, onR_exc, onO_some, run_n, run_t, runs_nil, runs_cons, Option.bind_some, dV_0, dV_1, dV_2, dV_3, dV_4, dV_5, dV_6, dV_7, dV_8, dV_9, dV_10, dV_11, dV_12, dV_13, dV_14, dV_15, dV_16, dC_e, dBin_e, dUn_e, dAnd_e, dOr_e, dNot_e, tVal_e, tAnd_e, tOr_e, tNot_e, dIf_e, dCall_e, aNil_e, aCons_e, dTup_e, Res.bind_ok, Res.bind_exc, asB_b, oAdd_i, oSub_i, oLt_i, oLe_i, oGt_i, oGe_i, oNeg_i, oEq_d, oNe_d, oEq_s, oNe_s, oAddI_i, bLen_fl, bLen_tup, bMax2_i, bMin2_i, List.length_cons, List.length_nil, List.length_map, Nat.zero_add, Nat.reduceAdd, Nat.reduceLT, big_lit0, big_lit1, big_lit2, big_lit3, big_lit4, if_true, if_false, List.set_cons_zero, List.set_cons_succ, decide_true, decide_false, Bool.not_true, Bool.not_false, Bool.false_eq_true, Bool.true_eq_false, decide_eq_true_eq, endF_ret, endF_nx, endF_exc, pAt_int, pNo_e, dSl_e, newL_e, cast0, cast1, cast2, cast3, cast4, cast5]; try rfl)]
  rw [seq_nx (by rw [sFor_e, l.any (h := h) rfl, onR_ok]; exact e)]
  simp only [sRet_e, dV_2, onR_ok, endF_ret]
  exact gc_same _
theorem lends_e : ∀ (t : Tr) (n : Nat) (p : List Nat) (h : Hs), t.high < n → p.length + t.high < 1000 → t.leaves < 1000 → f__law_ends n [trW t, .str p] h = .ok (.fl ((pickK tEnd (nodesOf t p)).map W.str)) h
  | .en x, n + 1, p, h, _, _, _ => by
    rw [f__law_ends_e]
    unfold b__law_ends
    have t0 : ∀ h, oIx (trW (.en x)) (.int 0) h = .ok (.str [101, 110, 100]) h := fun h => oIx_t0
    have lz : dGz (dLst (aCons (dV 1) (aNil))) [some (trW (.en x)), some (.str p)] h = .ok (.fl [.str p]) h := lst_gz rfl (by simp) rfl
    have e : (pickK tEnd (nodesOf (.en x) p)).map W.str = [.str p] := by simp [pickK, nodesOf]
    rw [e]
    generalize trW (.en x) = TW at *
    simp only [sSeq_t, then_nx, then_ret, then_bk, then_ct, then_exc, sAsg_e, sIf_e, sRet_e, sRetN_e, sExp_e, sNx_e, sBrk_e, sCnt_e, sRaise_e, sFor_e, onR_ok, onR_exc, onO_some, run_n, run_t, runs_nil, runs_cons, Option.bind_some, dV_0, dV_1, dV_2, dV_3, dV_4, dV_5, dV_6, dV_7, dV_8, dV_9, dV_10, dV_11, dV_12, dV_13, dV_14, dV_15, dV_16, dC_e, dBin_e, dUn_e, dAnd_e, dOr_e, dNot_e, tVal_e, tAnd_e, tOr_e, tNot_e, dIf_e, dCall_e, aNil_e, aCons_e, dTup_e, Res.bind_ok, Res.bind_exc, asB_b, oAdd_i, oSub_i, oLt_i, oLe_i, oGt_i, oGe_i, oNeg_i, oEq_d, oNe_d, oEq_s, oNe_s, oAddI_i, bLen_fl, bLen_tup, bMax2_i, bMin2_i, List.length_cons, List.length_nil, List.length_map, Nat.zero_add, Nat.reduceAdd, Nat.reduceLT, big_lit0, big_lit1, big_lit2, big_lit3, big_lit4, if_true, if_false, List.set_cons_zero, List.set_cons_succ, decide_true, decide_false, Bool.not_true, Bool.not_false, Bool.false_eq_true, Bool.true_eq_false, decide_eq_true_eq, endF_ret, endF_nx, endF_exc, pAt_int, pNo_e, dSl_e, newL_e, cast0, cast1, cast2, cast3, cast4, cast5, t0, lz]
    exact gc_same _
  | .fk x t u, n + 1, p, h, hn, hp, hl => by
    rw [f__law_ends_e]
    unfold b__law_ends
    have hh : (Tr.fk x t u).high = 1 + max t.high u.high := rfl
    have hv : (Tr.fk x t u).leaves = t.leaves + u.leaves := rfl
    rw [hh] at hn hp
    rw [hv] at hl
    have t0 : ∀ h, oIx (trW (.fk x t u)) (.int 0) h = .ok (.str [102, 111, 114, 107]) h := fun h => oIx_t0
    have t2 : ∀ h, oIx (trW (.fk x t u)) (.int 2) h = .ok (trW t) h := fun h => oIx_tup (k := 2) rfl
    have t3 : ∀ h, oIx (trW (.fk x t u)) (.int 3) h = .ok (trW u) h := fun h => oIx_tup (k := 3) rfl
    have nf : ¬ ([102, 111, 114, 107] : List Nat) = [101, 110, 100] := by decide
    have pY : ∀ h, oAdd (.str p) (.str [121]) h = .ok (.str (p ++ sY)) h := fun h => oAdd_str (by simp [bigL]; omega)
    have pN : ∀ h, oAdd (.str p) (.str [110]) h = .ok (.str (p ++ sN)) h := fun h => oAdd_str (by simp [bigL]; omega)
    have e1 := lends_e t n (p ++ sY) h (by omega) (by simp; omega) (by omega)
    have e2 := lends_e u n (p ++ sN) h (by omega) (by simp; omega) (by omega)
    have e : pickK tEnd (nodesOf (.fk x t u) p) = pickK tEnd (nodesOf u (p ++ sN)) ++ pickK tEnd (nodesOf t (p ++ sY)) := by
      unfold pickK
      rw [nodesOf, List.filter_cons_of_neg (by simp), List.filter_append, List.map_append]
    rw [e]
    have l1 := pick_len tEnd t (p ++ sY)
    have l2 := pick_len tEnd u (p ++ sN)
    have ad : ∀ h, oAdd (.fl ((pickK tEnd (nodesOf u (p ++ sN))).map W.str)) (.fl ((pickK tEnd (nodesOf t (p ++ sY))).map W.str)) h = newL ((pickK tEnd (nodesOf u (p ++ sN)) ++ pickK tEnd (nodesOf t (p ++ sY))).map W.str) h := fun h => by
      rw [oAdd_flfl (by simp [bigL]; omega), List.map_append]
    have pu := strs_pure (pickK tEnd (nodesOf u (p ++ sN)) ++ pickK tEnd (nodesOf t (p ++ sY)))
    generalize trW (.fk x t u) = TW at *
    generalize trW t = TY at *
    generalize trW u = TN at *
    generalize (pickK tEnd (nodesOf u (p ++ sN))).map W.str = AW at *
    generalize (pickK tEnd (nodesOf t (p ++ sY))).map W.str = BW at *
    generalize (pickK tEnd (nodesOf u (p ++ sN)) ++ pickK tEnd (nodesOf t (p ++ sY))).map W.str = CW at *
    simp only [sSeq_t, then_nx, then_ret, then_bk, then_ct, then_exc, sAsg_e, sIf_e, sRet_e, sRetN_e, sExp_e, sNx_e, sBrk_e, sCnt_e, sRaise_e, sFor_e, onR_ok, onR_exc, onO_some, run_n, run_t, runs_nil, runs_cons, Option.bind_some, dV_0, dV_1, dV_2, dV_3, dV_4, dV_5, dV_6, dV_7, dV_8, dV_9, dV_10, dV_11, dV_12, dV_13, dV_14, dV_15, dV_16, dC_e, dBin_e, dUn_e, dAnd_e, dOr_e, dNot_e, tVal_e, tAnd_e, tOr_e, tNot_e, dIf_e, dCall_e, aNil_e, aCons_e, dTup_e, Res.bind_ok, Res.bind_exc, asB_b, oAdd_i, oSub_i, oLt_i, oLe_i, oGt_i, oGe_i, oNeg_i, oEq_d, oNe_d, oEq_s, oNe_s, oAddI_i, bLen_fl, bLen_tup, bMax2_i, bMin2_i, List.length_cons, List.length_nil, List.length_map, Nat.zero_add, Nat.reduceAdd, Nat.reduceLT, big_lit0, big_lit1, big_lit2, big_lit3, big_lit4, if_true, if_false, List.set_cons_zero, List.set_cons_succ, decide_true, decide_false, Bool.not_true, Bool.not_false, Bool.false_eq_true, Bool.true_eq_false, decide_eq_true_eq, endF_ret, endF_nx, endF_exc, pAt_int, pNo_e, dSl_e, newL_e, cast0, cast1, cast2, cast3, cast4, cast5, t0, nf, t2, t3, pN, pY, e1, e2, ad]
    exact gc_newL pu
end Law
end PF
namespace PF
namespace Law
theorem Cut.end_under : ∀ {t : Tr} {p : List Nat} {L : List (List Nat)}, Cut t p L → ∀ s, s ∈ L → ∃ q, (q, tEnd) ∈ nodesOf t p ∧ s <+: q
  | _, _, _, .here t p, s, hs => by
    rw [List.mem_singleton.mp hs]
    have any : ∀ (t : Tr) (p : List Nat), ∃ q, (q, tEnd) ∈ nodesOf t p ∧ p <+: q := by
      intro t
      induction t with
      | en c => exact fun p => ⟨p, by simp [nodesOf], List.prefix_refl _⟩
      | fk c t u ih _ =>
        intro p
        obtain ⟨q, h1, h2⟩ := ih (p ++ sY)
        exact ⟨q, List.mem_cons_of_mem _ (List.mem_append.mpr (.inr h1)), (List.prefix_append p sY).trans h2⟩
    exact any t p
  | _, _, _, .split a b, s, hs => by
    rcases List.mem_append.mp hs with z | z
    · obtain ⟨q, h1, h2⟩ := b.end_under s z
      exact ⟨q, List.mem_cons_of_mem _ (List.mem_append.mpr (.inl h1)), h2⟩
    · obtain ⟨q, h1, h2⟩ := a.end_under s z
      exact ⟨q, List.mem_cons_of_mem _ (List.mem_append.mpr (.inr h1)), h2⟩
/-- texts met -/
def dT (ks : List (List Nat)) : List (Key × W) := ks.map fun s => (.inr s, .bl true)
def addT (ks : List (List Nat)) (s : List Nat) : List (List Nat) := if s ∈ ks then ks else ks ++ [s]
theorem putK_T (s : List Nat) (ks : List (List Nat)) : putK (dT ks) (.inr s) (.bl true) = dT (addT ks s) := by
  unfold putK addT
  have a : ((dT ks).any fun p => decide (p.1 = (Sum.inr s : Key))) = decide (s ∈ ks) := by
    unfold dT
    rw [List.any_map]
    by_cases e : s ∈ ks
    · rw [decide_eq_true e, List.any_eq_true]
      exact ⟨s, e, by simp⟩
    · rw [decide_eq_false e, List.any_eq_false]
      intro t ht z
      have : t = s := by simpa using z
      exact e (this ▸ ht)
  rw [a]
  by_cases e : s ∈ ks
  · simp only [e, decide_true, if_true]
    unfold dT
    rw [List.map_map]
    refine List.map_congr_left fun t ht => ?_
    by_cases z : t = s
    · subst z; simp
    · simp [z]
  · simp only [e, decide_false, if_false, Bool.false_eq_true]
    unfold dT
    rw [List.map_append]
    rfl
theorem addT_mem {ks : List (List Nat)} {s r : List Nat} : r ∈ addT ks s ↔ r ∈ ks ∨ r = s := by
  unfold addT
  split
  · rename_i z
    exact ⟨.inl, fun y => y.elim id fun y => by rw [y]; exact z⟩
  · rw [List.mem_append, List.mem_singleton]
theorem addT_nodup {ks : List (List Nat)} {s : List Nat} (nd : ks.Nodup) : (addT ks s).Nodup := by
  unfold addT
  split
  · exact nd
  · rename_i z
    rw [List.nodup_append]
    exact ⟨nd, by simp, fun a ha b hb => by
      rw [List.mem_singleton] at hb
      rintro rfl
      exact z (hb ▸ ha)⟩
theorem tops_is {t : Tr} {L : List (List Nat)} (c : Cut t [] L) {q : List Nat} (hq : (q, tEnd) ∈ nodesOf t []) : ∃ s, s ∈ L ∧ s <+: q ∧ tops L q = [s] := by
  obtain ⟨s, hs, k⟩ := ends_under c q hq
  have one := one_top (up_nodup c.up.1) hs k fun r hr kr => by
    rcases List.prefix_or_prefix_of_prefix kr k with h | h
    · exact c.apart hr hs h
    · exact (c.apart hs hr h).symm
  have m : s ∈ tops L q := List.mem_filter.mpr ⟨hs, topB_iff.mpr k⟩
  refine ⟨s, hs, k, ?_⟩
  generalize tops L q = T at *
  match T, one, m with
  | [a], _, m => rw [List.mem_singleton.mp m]
theorem isp2_e {t : Tr} (hh : t.high < 50) (hl : t.leaves ≤ 100) {L : List (List Nat)} (c : Cut t [] L) {w : W} {h : Hs} (l : Lw w (L.map W.str) h) : f__law_is_pruning [trW t, w] h = .ok (.bl true) h := by
  rw [f__law_is_pruning_e]
  unfold b__law_is_pruning
  obtain ⟨u1, u2⟩ := c.up
  have kl := c.len
  have sk : sortS (nub L) = L := up_iff.mpr u1
  have is1 := l.isl
  have ss : dGz (dCall bSortSet (aCons (dV 1) (aNil))) [some (trW t), some w, none, none, none, none] h = .ok (.fl (L.map W.str)) h := by
    have d : bSortSet [.fl (L.map W.str)] h = newL ((sortS (nub L)).map W.str) h := by
      have : L.length < 4000 := by omega
      simp [bSortSet, lstOf, strsOf_map, this]
    rw [dGz_e, dCall_e, aCons_e, dV_1, Res.bind_ok, aNil_e, Res.bind_ok, Res.bind_ok, l.sset, d, sk]
    exact gc_newL (strs_pure _)
  have nk : oNe (.fl (L.map W.str)) w h = .ok (.bl false) h := by rw [l.ne, oNe_strs, decide_eq_true rfl]; rfl
  have le := lends_e t 64 [] (h ++ [.dct []]) (by omega) (by simp; omega) (by omega)
  generalize hTW : trW t = TW at *
  rw [seq_nx (ρ1 := [some TW, some w, none, none, none, none]) (h1 := h) (by
    simp only [sSeq_t, then_nx, then_ret, then_bk, then_ct, then_exc, sAsg_e, sIf_e, sRet_e, sRetN_e, sExp_e, sNx_e, sBrk_e, sCnt_e, sRaise_e, sFor_e, onR_ok, onR_exc, onO_some, run_n, run_t, runs_nil, runs_cons, Option.bind_some, dV_0, dV_1, dV_2, dV_3, dV_4, dV_5, dV_6, dV_7, dV_8, dV_9, dV_10, dV_11, dV_12, dV_13, dV_14, dV_15, dV_16, dC_e, dBin_e, dUn_e, dAnd_e, dOr_e, dNot_e, tVal_e, tAnd_e, tOr_e, tNot_e, dIf_e, dCall_e, aNil_e, aCons_e, dTup_e, Res.bind_ok, Res.bind_exc, asB_b, oAdd_i, oSub_i, oLt_i, oLe_i, oGt_i, oGe_i, oNeg_i, oEq_d, oNe_d, oEq_s, oNe_s, oAddI_i, bLen_fl, bLen_tup, bMax2_i, bMin2_i, List.length_cons, List.length_nil, List.length_map, Nat.zero_add, Nat.reduceAdd, Nat.reduceLT, big_lit0, big_lit1, big_lit2, big_lit3, big_lit4, if_true, if_false, List.set_cons_zero, List.set_cons_succ, decide_true, decide_false, Bool.not_true, Bool.not_false, Bool.false_eq_true, Bool.true_eq_false, decide_eq_true_eq, endF_ret, endF_nx, endF_exc, pAt_int, pNo_e, dSl_e, newL_e, cast0, cast1, cast2, cast3, cast4, cast5, is1, ss, nk])]
  rw [seq_nx (ρ1 := [some TW, some w, some (.ref h.length), none, none, none]) (h1 := h ++ [.dct []]) (by
    simp only [sAsg_e, dDct0, onR_ok]; rfl)]
  obtain ⟨E, hE⟩ : ∃ E, E = pickK tEnd (nodesOf t []) := ⟨_, rfl⟩
  have inE : ∀ q, q ∈ E → (q, tEnd) ∈ nodesOf t [] := fun q hq => by rw [hE] at hq; exact mem_pick.mp hq
  have lE : E.length ≤ 200 := by have := pick_len tEnd t []; rw [← hE] at this; omega
  rw [← hE] at le
  obtain ⟨ρ', h', e, ks, a3, a4, a5, nd, mem, rfl, rfl⟩ := forL_all (g := [(.fl (E.map W.str), E.map W.str)]) (tg := .n 3) (b := L1__law_is_pruning) (fun i ρ h' => ∃ (ks : List (List Nat)) (a3 a4 a5 : Option W), ks.Nodup ∧ (∀ s, s ∈ ks ↔ s ∈ L ∧ ∃ q, q ∈ E.take i ∧ s <+: q) ∧ h' = h ++ [.dct (dT ks)] ∧ ρ = [some TW, some w, some (.ref h.length), a3, a4, a5])
    (E.map W.str) [some TW, some w, some (.ref h.length), none, none, none] (h ++ [.dct []]) ⟨[], none, none, none, List.nodup_nil, by simp, rfl, rfl⟩ (fun _ _ _ _ => stays_fl) (by
    rintro i x ρ h' hw ⟨ks, a3, a4, a5, nd, mem, rfl, rfl⟩
    rw [List.getElem?_map] at hw
    obtain ⟨q, hq, rfl⟩ := Option.map_eq_some_iff.mp hw
    obtain ⟨s, hs, sq, ts⟩ := tops_is c (inE q (List.mem_of_getElem? hq))
    have cz : dGz (dComp (iAny (dV 1)) (.n 5) (tVal (dMeth .str mStarts (dV 3) (aCons (dV 5) (aNil)))) (dV 5) [5]) [some TW, some w, some (.ref h.length), some (.str q), a4, a5] (h ++ [.dct (dT ks)]) = .ok (.fl ((tops L q).map W.str)) (h ++ [.dct (dT ks)]) :=
      comp_gz (it := iAny (dV 1)) (tg := .n 5) (own := [5]) W.str W.str (fun s => topB s q) L ((l.ext _).any rfl) (fun acc => (l.ext _).st _) (by unfold bigL; omega) (fun _ _ _ => rfl) (fun s _ => by
        refine ⟨[some TW, some w, some (.ref h.length), some (.str q), a4, some (.str s)], rfl, fun acc => ⟨?_, fun _ => rfl⟩⟩
        simp [dMeth_e, kdOf, mStarts, topB])
    have cz : dGz (dComp (iAny (dV 1)) (.n 5) (tVal (dMeth .str mStarts (dV 3) (aCons (dV 5) (aNil)))) (dV 5) [5]) [some TW, some w, some (.ref h.length), some (.str q), a4, a5] (h ++ [.dct (dT ks)]) = .ok (.fl [.str s]) (h ++ [.dct (dT ks)]) := by rw [cz, ts]; rfl
    have lk : ks.length ≤ L.length := by
      have := (nub_perm (l := L.filter fun r => decide (r ∈ ks)) nd fun r => by
        rw [List.mem_filter, decide_eq_true_eq]
        exact ⟨fun z => ⟨((mem r).mp z).1, z⟩, fun z => z.2⟩).length_eq
      have := nub_len (L.filter fun r => decide (r ∈ ks))
      have := List.length_filter_le (fun r => decide (r ∈ ks)) L
      omega
    have st : stL (.ref h.length) (.str s) (.bl true) (h ++ [.dct (dT ks)]) = some (h ++ [.dct (dT (addT ks s))]) := by
      have e0 : (h ++ [Cell.dct (dT ks)])[h.length]? = some (.dct (dT ks)) := by simp
      have hb : (dT ks).length < bigL := by unfold dT bigL; rw [List.length_map]; omega
      simp only [stL, e0, keyOf, Option.bind_some, hb, if_true, putK_T, set_end]
    refine ⟨[some TW, some w, some (.ref h.length), some (.str q), a4, a5], rfl, .inl ⟨[some TW, some w, some (.ref h.length), some (.str q), some (.fl [.str s]), a5], h ++ [.dct (dT (addT ks s))], ?_, addT ks s, _, _, _, addT_nodup nd, fun r => ?_, rfl, rfl⟩⟩
    · unfold L1__law_is_pruning
      rw [seq_nx (ρ1 := [some TW, some w, some (.ref h.length), some (.str q), some (.fl [.str s]), a5]) (h1 := h ++ [.dct (dT ks)]) (by rw [sAsg_e, cz]; rfl)]
      simp only [sSeq_t, then_nx, then_ret, then_bk, then_ct, then_exc, sAsg_e, sIf_e, sRet_e, sRetN_e, sExp_e, sNx_e, sBrk_e, sCnt_e, sRaise_e, sFor_e, onR_ok, onR_exc, onO_some, run_n, run_t, runs_nil, runs_cons, Option.bind_some, dV_0, dV_1, dV_2, dV_3, dV_4, dV_5, dV_6, dV_7, dV_8, dV_9, dV_10, dV_11, dV_12, dV_13, dV_14, dV_15, dV_16, dC_e, dBin_e, dUn_e, dAnd_e, dOr_e, dNot_e, tVal_e, tAnd_e, tOr_e, tNot_e, dIf_e, dCall_e, aNil_e, aCons_e, dTup_e, Res.bind_ok, Res.bind_exc, asB_b, oAdd_i, oSub_i, oLt_i, oLe_i, oGt_i, oGe_i, oNeg_i, oEq_d, oNe_d, oEq_s, oNe_s, oAddI_i, bLen_fl, bLen_tup, bMax2_i, bMin2_i, List.length_cons, List.length_nil, List.length_map, Nat.zero_add, Nat.reduceAdd, Nat.reduceLT, big_lit0, big_lit1, big_lit2, big_lit3, big_lit4, if_true, if_false, List.set_cons_zero, List.set_cons_succ, decide_true, decide_false, Bool.not_true, Bool.not_false, Bool.false_eq_true, Bool.true_eq_false, decide_eq_true_eq, endF_ret, endF_nx, endF_exc, pAt_int, pNo_e, dSl_e, newL_e, cast0, cast1, cast2, cast3, cast4, cast5, oIx_f0, sSub_e, st]
    · rw [addT_mem, mem, List.take_add_one, hq]
      simp only [Option.toList_some, List.mem_append, List.mem_singleton]
      constructor
      · rintro (⟨h1, q', h2, h3⟩ | rfl)
        · exact ⟨h1, q', .inl h2, h3⟩
        · exact ⟨hs, q, .inr rfl, sq⟩
      · rintro ⟨h1, q', h2 | rfl, h3⟩
        · exact .inl ⟨h1, q', h2, h3⟩
        · right
          have : r ∈ tops L q' := List.mem_filter.mpr ⟨h1, topB_iff.mpr h3⟩
          rw [ts] at this
          exact List.mem_singleton.mp this)
  rw [List.length_map, List.take_length] at mem
  have pl : ks.length = L.length := by
    refine List.Perm.length_eq ((List.perm_ext_iff_of_nodup nd (up_nodup u1)).mpr fun s => ?_)
    rw [mem]
    refine ⟨fun z => z.1, fun z => ⟨z, ?_⟩⟩
    obtain ⟨q, h1, h2⟩ := c.end_under s z
    exact ⟨q, by rw [hE]; exact mem_pick.mpr h1, h2⟩
  have it : iAny (dCall (f__law_ends 64) (aCons (dV 0) (aCons (dC (.str [])) (aNil)))) [some TW, some w, some (.ref h.length), none, none, none] (h ++ [.dct []]) = .ok (E.map W.str, [(.fl (E.map W.str), E.map W.str)]) (h ++ [.dct []]) := iAny_fl (by
    generalize E.map W.str = EW at *
    simp only [sSeq_t, then_nx, then_ret, then_bk, then_ct, then_exc, sAsg_e, sIf_e, sRet_e, sRetN_e, sExp_e, sNx_e, sBrk_e, sCnt_e, sRaise_e, sFor_e, onR_ok, onR_exc, onO_some, run_n, run_t, runs_nil, runs_cons, Option.bind_some, dV_0, dV_1, dV_2, dV_3, dV_4, dV_5, dV_6, dV_7, dV_8, dV_9, dV_10, dV_11, dV_12, dV_13, dV_14, dV_15, dV_16, dC_e, dBin_e, dUn_e, dAnd_e, dOr_e, dNot_e, tVal_e, tAnd_e, tOr_e, tNot_e, dIf_e, dCall_e, aNil_e, aCons_e, dTup_e, Res.bind_ok, Res.bind_exc, asB_b, oAdd_i, oSub_i, oLt_i, oLe_i, oGt_i, oGe_i, oNeg_i, oEq_d, oNe_d, oEq_s, oNe_s, oAddI_i, bLen_fl, bLen_tup, bMax2_i, bMin2_i, List.length_cons, List.length_nil, List.length_map, Nat.zero_add, Nat.reduceAdd, Nat.reduceLT, big_lit0, big_lit1, big_lit2, big_lit3, big_lit4, if_true, if_false, List.set_cons_zero, List.set_cons_succ, decide_true, decide_false, Bool.not_true, Bool.not_false, Bool.false_eq_true, Bool.true_eq_false, decide_eq_true_eq, endF_ret, endF_nx, endF_exc, pAt_int, pNo_e, dSl_e, newL_e, cast0, cast1, cast2, cast3, cast4, cast5, le])
  rw [seq_nx (by rw [sFor_e, it, onR_ok]; exact e)]
  have b1 : bLen [.ref h.length] (h ++ [.dct (dT ks)]) = .ok (.int (L.length : Nat)) (h ++ [.dct (dT ks)]) := by
    simp [bLen, dT, pl]
  have b2 := (l.ext [.dct (dT ks)]).len
  rw [List.length_map] at b2
  simp only [sSeq_t, then_nx, then_ret, then_bk, then_ct, then_exc, sAsg_e, sIf_e, sRet_e, sRetN_e, sExp_e, sNx_e, sBrk_e, sCnt_e, sRaise_e, sFor_e, onR_ok, onR_exc, onO_some, run_n, run_t, runs_nil, runs_cons, Option.bind_some, dV_0, dV_1, dV_2, dV_3, dV_4, dV_5, dV_6, dV_7, dV_8, dV_9, dV_10, dV_11, dV_12, dV_13, dV_14, dV_15, dV_16, dC_e, dBin_e, dUn_e, dAnd_e, dOr_e, dNot_e, tVal_e, tAnd_e, tOr_e, tNot_e, dIf_e, dCall_e, aNil_e, aCons_e, dTup_e, Res.bind_ok, Res.bind_exc, asB_b, oAdd_i, oSub_i, oLt_i, oLe_i, oGt_i, oGe_i, oNeg_i, oEq_d, oNe_d, oEq_s, oNe_s, oAddI_i, bLen_fl, bLen_tup, bMax2_i, bMin2_i, List.length_cons, List.length_nil, List.length_map, Nat.zero_add, Nat.reduceAdd, Nat.reduceLT, big_lit0, big_lit1, big_lit2, big_lit3, big_lit4, if_true, if_false, List.set_cons_zero, List.set_cons_succ, decide_true, decide_false, Bool.not_true, Bool.not_false, Bool.false_eq_true, Bool.true_eq_false, decide_eq_true_eq, endF_ret, endF_nx, endF_exc, pAt_int, pNo_e, dSl_e, newL_e, cast0, cast1, cast2, cast3, cast4, cast5, b1, b2]
  exact gc_pure rfl
end Law
end PF
namespace PF
namespace Law
/-! the first of the least -/
abbrev Pt := Int × Rat
def stepO (v : Pt → Rat) (s : Option Pt) (x : Pt) : Option Pt := match s with
  | none => some x
  | some g => if v x < v g then some x else some g
def leastO (v : Pt → Rat) (S : List Pt) : Option Pt := S.foldl (stepO v) none
/-- p is the first of the least in S, the points' leaves rising -/
def FL (v : Pt → Rat) (S : List Pt) (p : Pt) : Prop := p ∈ S ∧ ∀ q, q ∈ S → v p ≤ v q ∧ (q.1 < p.1 → v p < v q)
def Ris (S : List Pt) : Prop := S.Pairwise fun a b => a.1 < b.1
theorem leastO_from (v : Pt → Rat) : ∀ (B A : List Pt) (g : Pt), Ris (A ++ B) → FL v A g → ∃ p, B.foldl (stepO v) (some g) = some p ∧ FL v (A ++ B) p
  | [], A, g, _, f => ⟨g, rfl, by rw [List.append_nil]; exact f⟩
  | x :: B, A, g, r, f => by
    have e : A ++ x :: B = (A ++ [x]) ++ B := by simp
    rw [e] at r ⊢
    have rx : ∀ a, a ∈ A → a.1 < x.1 := fun a ha => (List.pairwise_append.mp (List.pairwise_append.mp r).1).2.2 a ha x (by simp)
    rw [List.foldl_cons]
    by_cases k : v x < v g
    · have es : stepO v (some g) x = some x := if_pos k
      rw [es]
      refine leastO_from v B (A ++ [x]) x r ⟨by simp, fun q hq => ?_⟩
      rcases List.mem_append.mp hq with hq | hq
      · have := (f.2 q hq).1
        exact ⟨by grind, fun _ => by grind⟩
      · rw [List.mem_singleton.mp hq]
        exact ⟨Rat.le_refl, fun h => absurd h (Int.lt_irrefl _)⟩
    · have es : stepO v (some g) x = some g := if_neg k
      rw [es]
      refine leastO_from v B (A ++ [x]) g r ⟨List.mem_append.mpr (.inl f.1), fun q hq => ?_⟩
      rcases List.mem_append.mp hq with hq | hq
      · exact f.2 q hq
      · rw [List.mem_singleton.mp hq]
        refine ⟨by grind, fun h => ?_⟩
        have := rx g f.1
        omega
theorem leastO_fl (v : Pt → Rat) (p : Pt) (S : List Pt) (r : Ris (p :: S)) : ∃ q, leastO v (p :: S) = some q ∧ FL v (p :: S) q := by
  have := leastO_from v S [p] p r ⟨by simp, fun q hq => by
    rw [List.mem_singleton.mp hq]
    exact ⟨Rat.le_refl, fun h => absurd h (Int.lt_irrefl _)⟩⟩
  exact this
theorem ris_eq : ∀ {S : List Pt}, Ris S → ∀ {p q : Pt}, p ∈ S → q ∈ S → p.1 = q.1 → p = q
  | x :: S, r, p, q, hp0, hq0, e => by
    obtain ⟨r1, r2⟩ := List.pairwise_cons.mp r
    rcases List.mem_cons.mp hp0 with e1 | hp
    · rcases List.mem_cons.mp hq0 with e2 | hq
      · rw [e1, e2]
      · have := r1 q hq
        rw [← e1] at this
        omega
    · rcases List.mem_cons.mp hq0 with e2 | hq
      · have := r1 p hp
        rw [← e2] at this
        omega
      · exact ris_eq r2 hp hq e
theorem FL.uniq {v : Pt → Rat} {S : List Pt} (r : Ris S) {p q : Pt} (a : FL v S p) (b : FL v S q) : p = q := by
  have h1 := a.2 q b.1
  have h2 := b.2 p a.1
  refine ris_eq r a.1 b.1 ?_
  rcases Int.lt_trichotomy p.1 q.1 with h | h | h
  · have := h2.2 h; grind
  · exact h
  · have := h1.2 h; grind
theorem leastO_is {v : Pt → Rat} {S : List Pt} (r : Ris S) {p : Pt} (f : FL v S p) : leastO v S = some p := by
  cases S with
  | nil => exact absurd f.1 (by simp)
  | cons x S =>
    obtain ⟨q, e, g⟩ := leastO_fl v x S r
    rw [e, g.uniq r f]
theorem Ris.filter {S : List Pt} (r : Ris S) (c : Pt → Bool) : Ris (S.filter c) := r.sublist List.filter_sublist
end Law
end PF
namespace PF
namespace Law
def ptW (p : Pt) : W := .tup [.int p.1, rat p.2]
@[simp] theorem ptW_pure (p : Pt) : (ptW p).pure = true := rfl
@[simp] theorem ptW_0 (p : Pt) (h : Hs) : oIx (ptW p) (.int 0) h = .ok (.int p.1) h := oIx_t0
@[simp] theorem ptW_1 (p : Pt) (h : Hs) : oIx (ptW p) (.int 1) h = .ok (rat p.2) h := oIx_t1
def PtOk (p : Pt) : Prop := p.1.natAbs < 2 ^ 80 ∧ RB 100 p.2
theorem pts_pure (ps : List Pt) : W.pures (ps.map ptW) = true := pures_map fun _ _ => rfl
theorem first_fold (v : Pt → Rat) : ∀ (S : List Pt) (p : Pt), S.foldl (stepO v) (some p) = some (S.foldl (fun g x => if v x < v g then x else g) p)
  | [], p => rfl
  | x :: S, p => by
    rw [List.foldl_cons, List.foldl_cons]
    by_cases k : v x < v p
    · have es : stepO v (some p) x = some x := if_pos k
      rw [es, if_pos k, first_fold v S x]
    · have es : stepO v (some p) x = some p := if_neg k
      rw [es, if_neg k, first_fold v S p]
theorem first_e (p : Pt) (S : List Pt) (ok : ∀ q, q ∈ p :: S → PtOk q) (q : Pt) (hq : leastO (fun q => q.2) (p :: S) = some q) (h : Hs) : f_first_point [.fl ((p :: S).map ptW)] h = .ok (ptW q) h := by
  rw [f_first_point_e]
  unfold b_first_point
  have i0 : oIx (.fl ((p :: S).map ptW)) (.int 0) h = .ok (ptW p) h := oIx_fl (k := 0) rfl
  rw [seq_nx (ρ1 := [some (.fl ((p :: S).map ptW)), some (ptW p), none]) (h1 := h) (by
    simp only [sAsg_e, dBin_e, dV_0, dC_e, Res.bind_ok, i0]; rfl)]
  obtain ⟨ρ', h', e, ⟨hm, e2, rfl, rfl⟩⟩ := forL_st (enc := ptW) (g := [(.fl ((p :: S).map ptW), (p :: S).map ptW)]) (tg := .n 2) (b := L1_first_point) (fun (g : Pt) ρ h' => g ∈ p :: S ∧ ∃ e2 : Option W, h' = h ∧ ρ = [some (.fl ((p :: S).map ptW)), some (ptW g), e2])
    (fun g x => if x.2 < g.2 then x else g) (p :: S) p [some (.fl ((p :: S).map ptW)), some (ptW p), none] h ⟨List.mem_cons_self .., none, rfl, rfl⟩ (fun _ _ _ _ => stays_fl) (by
    rintro g x ρ h' hx ⟨hg, e2, rfl, rfl⟩
    have u := under_r x.2 g.2 h' ((ok x hx).2.le (by omega)) ((ok g hg).2.le (by omega))
    generalize (p :: S).map ptW = PW
    refine ⟨[some (.fl PW), some (ptW g), some (ptW x)], rfl, .inl ⟨[some (.fl PW), some (ptW (if x.2 < g.2 then x else g)), some (ptW x)], h', ?_, ?_, _, rfl, rfl⟩⟩
    · unfold L1_first_point
      simp only [sIf_e, tVal_e, dCall_e, aCons_e, aNil_e, dBin_e, dV_1, dV_2, dC_e, Res.bind_ok, ptW_1, u, asB_b, onR_ok]
      by_cases k : x.2 < g.2
      · simp only [k, decide_true, if_true, sAsg_e, dV_2, onR_ok]; rfl
      · simp only [k, decide_false, Bool.false_eq_true, if_false, sNx_e]
    · split
      · exact hx
      · exact hg)
  rw [seq_nx (by rw [sFor_e, iAny_fl (h1 := h') rfl, onR_ok]; exact e)]
  have eq : (p :: S).foldl (fun g x => if x.2 < g.2 then x else g) p = q := by
    have h2 := first_fold (fun q : Pt => q.2) S p
    have h3 : leastO (fun q => q.2) (p :: S) = S.foldl (stepO fun q => q.2) (some p) := rfl
    rw [h3, h2] at hq
    rw [List.foldl_cons]
    have : (if p.2 < p.2 then p else p) = p := by split <;> rfl
    rw [this]
    exact Option.some.inj hq
  rw [eq]
  simp [gc_same]
def slope (here p : Pt) : Rat := (p.2 - here.2) / Rat.divInt (here.1 - p.1) 1
def nextP (ps : List Pt) (here : Pt) : Option Pt := leastO (slope here) (ps.filter fun q => decide (q.1 < here.1))
def nxW (here : Pt) : Option Pt → W
  | none => .non
  | some p => .tup [rat (slope here p), ptW p]
theorem slope_rb {here p : Pt} (a : PtOk here) (b : PtOk p) (hl : p.1 < here.1) : RB 400 (slope here p) ∧ Rat.divInt (here.1 - p.1) 1 ≠ 0 ∧ RB 81 (Rat.divInt (here.1 - p.1) 1) ∧ RB 201 (p.2 - here.2) := by
  have r1 : RB 201 (p.2 - here.2) := b.2.sub a.2
  have r2 : RB 81 (Rat.divInt (here.1 - p.1) 1) := rb_of (by omega) (by decide) (by
    have := a.1
    have := b.1
    omega)
  have nz : Rat.divInt (here.1 - p.1) 1 ≠ 0 := by
    intro z
    have e1 := congrArg Rat.num z
    rw [Rat.num_divInt] at e1
    simp at e1
    omega
  exact ⟨(r1.div nz r2).le (by omega), nz, r2, r1⟩
theorem next_e (ps : List Pt) (ok : ∀ q, q ∈ ps → PtOk q) (here : Pt) (oh : PtOk here) (h : Hs) : f_next_point [.fl (ps.map ptW), ptW here] h = .ok (nxW here (nextP ps here)) h := by
  rw [f_next_point_e]
  unfold b_next_point
  rw [seq_nx (ρ1 := [some (.fl (ps.map ptW)), some (ptW here), some (nxW here none), none, none]) (h1 := h) (by simp only [sAsg_e, dC_e]; rfl)]
  obtain ⟨ρ', h', e, ⟨hm, e3, e4, rfl, rfl⟩⟩ := forL_st (enc := ptW) (g := [(.fl (ps.map ptW), ps.map ptW)]) (tg := .n 3) (b := L1_next_point) (fun (g : Option Pt) ρ h' => (∀ p, g = some p → p ∈ ps ∧ p.1 < here.1) ∧ ∃ e3 e4 : Option W, h' = h ∧ ρ = [some (.fl (ps.map ptW)), some (ptW here), some (nxW here g), e3, e4])
    (fun g x => if x.1 < here.1 then stepO (slope here) g x else g) ps none [some (.fl (ps.map ptW)), some (ptW here), some (nxW here none), none, none] h ⟨by simp, none, none, rfl, rfl⟩ (fun _ _ _ _ => stays_fl) (by
    rintro g x ρ h' hx ⟨hg, e3, e4, rfl, rfl⟩
    generalize hPW : ps.map ptW = PW
    refine ⟨[some (.fl PW), some (ptW here), some (nxW here g), some (ptW x), e4], rfl, .inl ?_⟩
    unfold L1_next_point
    by_cases k : x.1 < here.1
    · obtain ⟨r1, nz, r2, r3⟩ := slope_rb oh (ok x hx) k
      have s1 := minus_r x.2 here.2 h' ((ok x hx).2.le (by omega)) (oh.2.le (by omega))
      have s2 := ratio_r (here.1 - x.1) 1 h' (by omega) (Nat.lt_of_lt_of_le (by omega : (1 : Int).natAbs < 2 ^ 1) (Nat.pow_le_pow_right (by omega) (by omega)))
      have s3 := over_r (x.2 - here.2) (Rat.divInt (here.1 - x.1) 1) h' nz (r3.le (by omega)) (r2.le (by omega))
      have s3 : f_over [rat (x.2 - here.2), rat (Rat.divInt (here.1 - x.1) 1)] h' = .ok (rat (slope here x)) h' := s3
      have e1 : sAsg (dCall f_over (aCons (dCall f_minus (aCons (dBin oIx (dV 3) (dC (.int 1))) (aCons (dBin oIx (dV 1) (dC (.int 1))) (aNil)))) (aCons (dCall f_ratio (aCons (dBin oSub (dBin oIx (dV 1) (dC (.int 0))) (dBin oIx (dV 3) (dC (.int 0)))) (aCons (dC (.int 1)) (aNil)))) (aNil)))) (.n 4) [some (.fl PW), some (ptW here), some (nxW here g), some (ptW x), e4] h' = .nx [some (.fl PW), some (ptW here), some (nxW here g), some (ptW x), some (rat (slope here x))] h' := by
        simp only [sAsg_e, dCall_e, aCons_e, aNil_e, dBin_e, dV_1, dV_3, dC_e, Res.bind_ok, ptW_0, ptW_1, oSub_i, s1, s2, s3]; rfl
      rw [if_pos k]
      refine ⟨[some (.fl PW), some (ptW here), some (nxW here (stepO (slope here) g x)), some (ptW x), some (rat (slope here x))], h', ?_, ?_, _, _, rfl, rfl⟩
      · simp only [sIf_e, tVal_e, dBin_e, dV_1, dV_3, dC_e, Res.bind_ok, ptW_0, oLt_i, k, decide_true, asB_b, onR_ok, if_true]
        rw [seq_nx e1]
        cases g with
        | none =>
          have n0 : ∀ h, oIsN (nxW here none) h = .ok (.bl true) h := fun h => rfl
          simp only [sIf_e, tOr_e, tVal_e, dUn_e, dV_2, Res.bind_ok, n0, asB_b, if_true, onR_ok, sAsg_e, dTup_e, aCons_e, aNil_e, dV_3, dV_4, List.length_cons, List.length_nil, Nat.zero_add, Nat.reduceAdd, big_lit2]
          rfl
        | some g =>
          have n0 : ∀ h, oIsN (nxW here (some g)) h = .ok (.bl false) h := fun h => rfl
          have n1 : ∀ h, oIx (nxW here (some g)) (.int 0) h = .ok (rat (slope here g)) h := fun h => oIx_t0
          obtain ⟨g1, g2⟩ := hg g rfl
          have u := under_r (slope here x) (slope here g) h' (r1.le (by omega)) ((slope_rb oh (ok g g1) g2).1.le (by omega))
          simp only [sIf_e, tOr_e, tVal_e, dUn_e, dBin_e, dV_2, dC_e, Res.bind_ok, n0, n1, asB_b, Bool.false_eq_true, if_false, dCall_e, aCons_e, aNil_e, dV_4, u, onR_ok]
          by_cases m : slope here x < slope here g
          · have es : stepO (slope here) (some g) x = some x := if_pos m
            rw [es]
            simp only [m, decide_true, if_true, sAsg_e, dTup_e, aCons_e, aNil_e, dV_3, dV_4, Res.bind_ok, List.length_cons, List.length_nil, Nat.zero_add, Nat.reduceAdd, big_lit2]
            rfl
          · have es : stepO (slope here) (some g) x = some g := if_neg m
            rw [es]
            simp only [m, decide_false, Bool.false_eq_true, if_false, sNx_e]
      · intro p hp
        cases g with
        | none =>
          have := Option.some.inj hp
          subst this
          exact ⟨hx, k⟩
        | some g =>
          unfold stepO at hp
          dsimp only at hp
          split at hp
          · have := Option.some.inj hp
            subst this
            exact ⟨hx, k⟩
          · exact hg p hp
    · rw [if_neg k]
      refine ⟨[some (.fl PW), some (ptW here), some (nxW here g), some (ptW x), e4], h', ?_, hg, _, _, rfl, rfl⟩
      simp only [sIf_e, tVal_e, dBin_e, dV_1, dV_3, dC_e, Res.bind_ok, ptW_0, oLt_i, k, decide_false, asB_b, onR_ok, Bool.false_eq_true, if_false, sNx_e])
  rw [seq_nx (by rw [sFor_e, iAny_fl (h1 := h') rfl, onR_ok]; exact e)]
  have eq : ps.foldl (fun g x => if x.1 < here.1 then stepO (slope here) g x else g) none = nextP ps here := by
    unfold nextP leastO
    rw [List.foldl_filter]
    congr 1
    funext g x
    simp
  rw [eq]
  have pu : (nxW here (nextP ps here)).pure = true := by
    cases nextP ps here with
    | none => rfl
    | some p => rfl
  simp [gc_same, pu]
/-- the turns behind a point: each with its price -/
inductive Turns (ps : List Pt) : Pt → List (Rat × Pt) → Prop
  | stop {here : Pt} : nextP ps here = none → Turns ps here []
  | go {here p : Pt} {l : List (Rat × Pt)} : nextP ps here = some p → Turns ps p l → Turns ps here ((slope here p, p) :: l)
def crW (c : Rat × Int) : W := .tup [rat c.1, .int c.2]
def corOf (g : Rat × Pt) : Rat × Int := (g.1, g.2.1)
theorem leastO_mem {v : Pt → Rat} {S : List Pt} {p : Pt} (e : leastO v S = some p) : p ∈ S := by
  have main : ∀ (B : List Pt) (s : Option Pt), (∀ g, s = some g → g ∈ S) → (∀ b, b ∈ B → b ∈ S) → ∀ q, B.foldl (stepO v) s = some q → q ∈ S := by
    intro B
    induction B with
    | nil => intro s hs _ q hq; exact hs q hq
    | cons x B ih =>
      intro s hs hB q hq
      refine ih (stepO v s x) (fun g hg => ?_) (fun b hb => hB b (List.mem_cons_of_mem _ hb)) q hq
      cases s with
      | none =>
        have := Option.some.inj hg
        subst this
        exact hB _ (List.mem_cons_self ..)
      | some g0 =>
        unfold stepO at hg
        dsimp only at hg
        split at hg
        · have := Option.some.inj hg
          subst this
          exact hB _ (List.mem_cons_self ..)
        · exact hs g hg
  exact main S none (by simp) (fun _ h => h) p e
theorem next_mem {ps : List Pt} {here p : Pt} (e : nextP ps here = some p) : p ∈ ps ∧ p.1 < here.1 := by
  have := leastO_mem e
  obtain ⟨h1, h2⟩ := List.mem_filter.mp this
  exact ⟨h1, of_decide_eq_true h2⟩
theorem turns_ex (ps : List Pt) : ∀ (n : Nat) (here : Pt), (ps.filter fun q => decide (q.1 < here.1)).length ≤ n → ∃ l, Turns ps here l ∧ l.length ≤ n
  | n, here, hn => by
    cases e : nextP ps here with
    | none => exact ⟨[], .stop e, by simp⟩
    | some p =>
      obtain ⟨m1, m2⟩ := next_mem e
      have lt : (ps.filter fun q => decide (q.1 < p.1)).length < (ps.filter fun q => decide (q.1 < here.1)).length := by
        have e1 : (ps.filter fun q => decide (q.1 < p.1)) = (ps.filter fun q => decide (q.1 < here.1)).filter fun q => decide (q.1 < p.1) := by
          rw [List.filter_filter]
          apply List.filter_congr
          intro q _
          by_cases k : q.1 < p.1
          · have : q.1 < here.1 := by omega
            simp [k, this]
          · simp [k]
        rw [e1]
        have mp : p ∈ ps.filter fun q => decide (q.1 < here.1) := List.mem_filter.mpr ⟨m1, by simpa using m2⟩
        have le := List.length_filter_le (fun q : Pt => decide (q.1 < p.1)) (ps.filter fun q => decide (q.1 < here.1))
        rcases Nat.lt_or_ge ((ps.filter fun q => decide (q.1 < here.1)).filter fun q => decide (q.1 < p.1)).length (ps.filter fun q => decide (q.1 < here.1)).length with h | h
        · exact h
        · have := List.length_filter_eq_length_iff.mp (Nat.le_antisymm le h) p mp
          simp at this
      match n with
      | 0 => omega
      | n + 1 =>
        obtain ⟨l, t, hl⟩ := turns_ex ps n p (by omega)
        exact ⟨_, .go e t, by rw [List.length_cons]; omega⟩
theorem cor_loop (ps : List Pt) (ok : ∀ q, q ∈ ps → PtOk q) (h : Hs) : ∀ {here : Pt} {l : List (Rat × Pt)}, Turns ps here l → here ∈ ps → ∀ (made : List (Rat × Int)) (n : Nat), made.length + l.length < 1000 → l.length < n →
    ∃ a b : Option W, whileF (tVal (dUn oNotN (dV 3))) L1_corners n [some (.fl (ps.map ptW)), some (ptW here), some (.ref h.length), some (nxW here (nextP ps here))] (h ++ [.lst (made.map crW)]) =
      .nx [some (.fl (ps.map ptW)), a, some (.ref h.length), b] (h ++ [.lst ((made ++ l.map corOf).map crW)])
  | here, _, .stop e, hm, made, n + 1, _, _ => by
    refine ⟨some (ptW here), some .non, ?_⟩
    rw [e, whileF]
    have n0 : ∀ h, oNotN (nxW here none) h = .ok (.bl false) h := fun h => rfl
    simp only [tVal_e, dUn_e, dV_3, Res.bind_ok, n0, asB_b, onR_ok, Bool.false_eq_true, if_false, List.map_nil, List.append_nil]
    rfl
  | here, _, .go (p := p) (l := l) e t, hm, made, n + 1, hl, hn => by
    obtain ⟨m1, m2⟩ := next_mem e
    rw [List.length_cons] at hl hn
    obtain ⟨a, b, ih⟩ := cor_loop ps ok h t m1 (made ++ [(slope here p, p.1)]) n (by rw [List.length_append, List.length_singleton]; omega) (by omega)
    refine ⟨a, b, ?_⟩
    rw [e, whileF]
    have n0 : ∀ h, oNotN (nxW here (some p)) h = .ok (.bl true) h := fun h => rfl
    have n1 : ∀ h, oIx (nxW here (some p)) (.int 0) h = .ok (rat (slope here p)) h := fun h => oIx_t0
    have n2 : ∀ h, oIx (nxW here (some p)) (.int 1) h = .ok (ptW p) h := fun h => oIx_t1
    have ne := fun h => next_e ps ok p (ok p m1) h
    have ap : mAppend (.ref h.length) [.tup [rat (slope here p), .int p.1]] (h ++ [.lst (made.map crW)]) = .ok .non (h ++ [.lst ((made ++ [(slope here p, p.1)]).map crW)]) := by
      rw [mApp_end (by rw [List.length_map]; unfold bigL; omega), List.map_append]; rfl
    have kd : kdOf (.ref h.length) (h ++ [.lst (made.map crW)]) = some .lst := kd_at (ws := made.map crW) (by simp)
    generalize hPW : ps.map ptW = PW at *
    have e1 : L1_corners [some (.fl PW), some (ptW here), some (.ref h.length), some (nxW here (some p))] (h ++ [.lst (made.map crW)]) = .nx [some (.fl PW), some (ptW p), some (.ref h.length), some (nxW p (nextP ps p))] (h ++ [.lst ((made ++ [(slope here p, p.1)]).map crW)]) := by
      unfold L1_corners
      rw [seq_nx (ρ1 := [some (.fl PW), some (ptW p), some (.ref h.length), some (nxW here (some p))]) (h1 := h ++ [.lst (made.map crW)]) (by
        simp only [sAsg_e, dBin_e, dV_3, dC_e, Res.bind_ok, n2]; rfl)]
      rw [seq_nx (ρ1 := [some (.fl PW), some (ptW p), some (.ref h.length), some (nxW here (some p))]) (h1 := h ++ [.lst ((made ++ [(slope here p, p.1)]).map crW)]) (by
        simp only [sExp_e, dMeth_e, dV_2, Res.bind_ok, kd, if_true, aCons_e, aNil_e, dTup_e, dBin_e, dV_3, dV_1, dC_e, n1, ptW_0, List.length_cons, List.length_nil, Nat.zero_add, Nat.reduceAdd, big_lit2, ap, onR_ok])]
      simp only [sAsg_e, dCall_e, aCons_e, aNil_e, dV_0, dV_1, Res.bind_ok, ne]; rfl
    simp only [tVal_e, dUn_e, dV_3, Res.bind_ok, n0, asB_b, onR_ok, if_true]
    rw [e1]
    have eA : made ++ List.map corOf ((slope here p, p) :: l) = (made ++ [(slope here p, p.1)]) ++ l.map corOf := by simp [corOf]
    rw [eA]
    exact ih
/-- all corners of some points -/
def Corners (ps : List Pt) (cs : List (Rat × Int)) : Prop := ∃ here l, leastO (fun q => q.2) ps = some here ∧ Turns ps here l ∧ cs = (0, here.1) :: l.map corOf ∧ l.length ≤ ps.length
theorem corners_ex (p : Pt) (S : List Pt) : ∃ cs, Corners (p :: S) cs := by
  have h2 : leastO (fun q => q.2) (p :: S) = some _ := first_fold (fun q : Pt => q.2) S p
  obtain ⟨l, t, hl⟩ := turns_ex (p :: S) (p :: S).length (S.foldl (fun g x => if x.2 < g.2 then x else g) p) (List.length_filter_le _ _)
  exact ⟨_, _, l, h2, t, rfl, hl⟩
theorem corners_body (p : Pt) (S : List Pt) (lS : S.length < 400) (ok : ∀ q, q ∈ p :: S → PtOk q) {cs : List (Rat × Int)} (c : Corners (p :: S) cs) (h : Hs) : b_corners [some (.fl ((p :: S).map ptW)), none, none, none] h = .ret (.ref h.length) (h ++ [.lst (cs.map crW)]) := by
  obtain ⟨here, l, e1, t, rfl, ll⟩ := c
  have hm := leastO_mem e1
  have fe := first_e p S ok here e1
  have ne := next_e (p :: S) ok here (ok here hm)
  unfold b_corners
  have bl : bLen [.fl ((p :: S).map ptW)] h = .ok (.int ((p :: S).length : Nat)) h := by simp [bLen]
  have l0 : (((p :: S).length : Nat) : Int) ≠ 0 := by rw [List.length_cons]; omega
  rw [List.length_cons] at ll
  have l1 : (p :: S).length = S.length + 1 := rfl
  obtain ⟨a, b, lp⟩ := cor_loop (p :: S) ok h t hm [(0, here.1)] (l.length + 1) (by rw [List.length_singleton]; omega) (by omega)
  have lp := sWhile_of lp (by intro z; cases z) (FUEL_big (Nat.lt_of_lt_of_le (by omega : l.length < 2 ^ 9) (Nat.pow_le_pow_right (by omega) (by omega))))
  generalize (((p :: S).length : Nat) : Int) = N at *
  generalize (p :: S).map ptW = PW at *
  have n0 : ((N == 0) = false) := by rw [beq_dec]; exact decide_eq_false l0
  rw [seq_nx (ρ1 := [some (.fl PW), none, none, none]) (h1 := h) (by
    simp only [sIf_e, tVal_e, dBin_e, dCall_e, aCons_e, aNil_e, dV_0, dC_e, Res.bind_ok, bl, oEq_i, n0, asB_b, onR_ok, Bool.false_eq_true, if_false, sNx_e])]
  rw [seq_nx (ρ1 := [some (.fl PW), some (ptW here), none, none]) (h1 := h) (by
    simp only [sAsg_e, dCall_e, aCons_e, aNil_e, dV_0, Res.bind_ok, fe]; rfl)]
  rw [seq_nx (ρ1 := [some (.fl PW), some (ptW here), some (.ref h.length), none]) (h1 := h ++ [.lst ([((0 : Rat), here.1)].map crW)]) (by
    simp only [sAsg_e, dLst_e, aCons_e, aNil_e, dTup_e, dC_e, dBin_e, dV_1, Res.bind_ok, ptW_0, List.length_cons, List.length_nil, Nat.zero_add, Nat.reduceAdd, big_lit2, if_true]
    rfl)]
  rw [seq_nx (ρ1 := [some (.fl PW), some (ptW here), some (.ref h.length), some (nxW here (nextP (p :: S) here))]) (h1 := h ++ [.lst ([((0 : Rat), here.1)].map crW)]) (by
    simp only [sAsg_e, dCall_e, aCons_e, aNil_e, dV_0, dV_1, Res.bind_ok, ne]; rfl)]
  rw [seq_nx lp]
  simp only [sRet_e, dV_2, onR_ok, List.singleton_append]
theorem crs_pure (cs : List (Rat × Int)) : W.pures (cs.map crW) = true := pures_map fun _ _ => rfl
end Law
end PF
namespace PF
namespace Law
theorem castRq {a b : Int} (h : a < b) : (a : Rat) < (b : Rat) := Rat.intCast_lt_intCast.mpr h
theorem castLq {a b : Int} (h : a ≤ b) : (a : Rat) ≤ (b : Rat) := Rat.intCast_le_intCast.mpr h
/-! the corners are where the first of the least turns -/
def V (x : Rat) (q : Pt) : Rat := q.2 + x * (q.1 : Rat)
theorem slope_mul {here p : Pt} (h : p.1 < here.1) : slope here p * ((here.1 : Rat) - (p.1 : Rat)) = p.2 - here.2 := by
  unfold slope
  rw [Rat.divInt_eq_div, Rat.intCast_sub, Rat.intCast_one]
  have := castRq h
  generalize (here.1 : Rat) = x at *
  generalize (p.1 : Rat) = y at *
  have h3 : x - y ≠ 0 := by grind
  grind
theorem mul_le {a b c : Rat} (h : a ≤ b) (hc : 0 ≤ c) : a * c ≤ b * c := by
  have := Rat.mul_nonneg (show 0 ≤ b - a by grind) hc
  grind
theorem mul_lt {a b c : Rat} (h : a < b) (hc : 0 < c) : a * c < b * c := by
  have := Rat.mul_pos (show 0 < b - a by grind) hc
  grind
theorem fl_start {P : List Pt} {here : Pt} (f : FL (fun q => q.2) P here) : FL (V 0) P here := by
  refine ⟨f.1, fun q hq => ?_⟩
  have := f.2 q hq
  unfold V
  exact ⟨by have := this.1; grind, fun h => by have := this.2 h; grind⟩
/-- behind here nothing is better at a higher price -/
theorem fl_more {P : List Pt} {here q : Pt} {x y : Rat} (f : FL (V x) P here) (hy : x ≤ y) (hq : q ∈ P) (hl : here.1 ≤ q.1) : V y here ≤ V y q := by
  have h1 := (f.2 q hq).1
  have h2 := castLq hl
  have h3 := mul_le hy (show (0 : Rat) ≤ (q.1 : Rat) - (here.1 : Rat) by grind)
  unfold V at *
  grind
theorem next_fl {P : List Pt} (r : Ris P) {here p : Pt} (e : nextP P here = some p) : FL (slope here) (P.filter fun q => decide (q.1 < here.1)) p := by
  unfold nextP at e
  have r2 := r.filter fun q => decide (q.1 < here.1)
  generalize P.filter (fun q => decide (q.1 < here.1)) = F at *
  cases F with
  | nil => exact absurd (leastO_mem e) (by simp)
  | cons a F =>
    obtain ⟨q, e2, f⟩ := leastO_fl (slope here) a F r2
    rw [e] at e2
    rw [Option.some.inj e2]
    exact f
theorem fl_stay {P : List Pt} {here : Pt} {x y : Rat} (f : FL (V x) P here) (hy : x ≤ y) (hs : ∀ q, q ∈ P → q.1 < here.1 → y < slope here q) : FL (V y) P here := by
  refine ⟨f.1, fun q hq => ?_⟩
  by_cases k : q.1 < here.1
  · have h1 := slope_mul k
    have h2 := mul_lt (hs q hq k) (show (0 : Rat) < (here.1 : Rat) - (q.1 : Rat) by have := castRq k; grind)
    have h3 : V y here < V y q := by unfold V; grind
    exact ⟨by grind, fun _ => h3⟩
  · exact ⟨fl_more f hy hq (by omega), fun h => absurd h k⟩
theorem fl_last {P : List Pt} (r : Ris P) {here : Pt} {x : Rat} (f : FL (V x) P here) (e : nextP P here = none) {y : Rat} (hy : x ≤ y) : FL (V y) P here := by
  refine fl_stay f hy fun q hq hl => ?_
  exfalso
  unfold nextP at e
  have r2 := r.filter fun q => decide (q.1 < here.1)
  have m : q ∈ P.filter fun q => decide (q.1 < here.1) := List.mem_filter.mpr ⟨hq, decide_eq_true hl⟩
  generalize P.filter (fun q => decide (q.1 < here.1)) = F at *
  cases F with
  | nil => simp at m
  | cons a F =>
    obtain ⟨q, e2, f⟩ := leastO_fl (slope here) a F r2
    rw [e] at e2
    simp at e2
theorem fl_step {P : List Pt} (r : Ris P) {here p : Pt} {x : Rat} (f : FL (V x) P here) (e : nextP P here = some p) : x < slope here p ∧ FL (V (slope here p)) P p ∧ ∀ y, x ≤ y → y < slope here p → FL (V y) P here := by
  have g := next_fl r e
  obtain ⟨m1, m2⟩ := next_mem e
  have h1 := slope_mul m2
  have c2 := castRq m2
  have lt : x < slope here p := by
    have h2 := (f.2 p m1).2 m2
    rcases @Rat.le_total (slope here p) x with h | h
    · have := mul_le h (show (0 : Rat) ≤ (here.1 : Rat) - (p.1 : Rat) by grind)
      unfold V at h2
      grind
    · by_cases k : x = slope here p
      · have := mul_le (show slope here p ≤ x by grind) (show (0 : Rat) ≤ (here.1 : Rat) - (p.1 : Rat) by grind)
        unfold V at h2
        grind
      · grind
  have eqv : V (slope here p) p = V (slope here p) here := by unfold V; grind
  refine ⟨lt, ⟨m1, fun q hq => ?_⟩, fun y hy hy2 => fl_stay f hy fun q hq hl => ?_⟩
  · by_cases k : q.1 < here.1
    · have mq : q ∈ P.filter fun q => decide (q.1 < here.1) := List.mem_filter.mpr ⟨hq, decide_eq_true k⟩
      have h3 := slope_mul k
      have c3 := castRq k
      refine ⟨?_, fun h => ?_⟩
      · have := mul_le (g.2 q mq).1 (show (0 : Rat) ≤ (here.1 : Rat) - (q.1 : Rat) by grind)
        unfold V at *
        grind
      · have := mul_lt ((g.2 q mq).2 h) (show (0 : Rat) < (here.1 : Rat) - (q.1 : Rat) by grind)
        unfold V at *
        grind
    · refine ⟨?_, fun h => absurd h (by omega)⟩
      rw [eqv]
      exact fl_more f (by grind) hq (by omega)
  · have mq : q ∈ P.filter fun q => decide (q.1 < here.1) := List.mem_filter.mpr ⟨hq, decide_eq_true hl⟩
    have := (g.2 q mq).1
    grind
theorem turns_up {P : List Pt} (r : Ris P) : ∀ {here : Pt} {l : List (Rat × Pt)}, Turns P here l → ∀ {x : Rat}, FL (V x) P here → (∀ g, g ∈ l → x < g.1 ∧ g.2.1 < here.1) ∧ (l.map corOf).Pairwise fun a b => a.1 < b.1 ∧ b.2 < a.2
  | _, _, .stop e, x, f => by simp
  | here, _, .go (p := p) (l := l) e t, x, f => by
    obtain ⟨s1, s2, s3⟩ := fl_step r f e
    obtain ⟨m1, m2⟩ := next_mem e
    obtain ⟨i1, i2⟩ := turns_up r t s2
    refine ⟨fun g hg => ?_, ?_⟩
    · rcases List.mem_cons.mp hg with rfl | hg
      · exact ⟨s1, m2⟩
      · have := i1 g hg
        exact ⟨by grind, by have := this.2; omega⟩
    · rw [List.map_cons, List.pairwise_cons]
      refine ⟨fun c hc => ?_, i2⟩
      obtain ⟨g, hg, rfl⟩ := List.mem_map.mp hc
      exact i1 g hg
def toldP (y : Rat) (s : Int) (cs : List (Rat × Int)) : Int := cs.foldl (fun s c => if c.1 ≤ y then c.2 else s) s
theorem told_same {y : Rat} : ∀ (cs : List (Rat × Int)) (s : Int), (∀ c, c ∈ cs → y < c.1) → toldP y s cs = s
  | [], s, _ => rfl
  | c :: cs, s, h => by
    have := h c (List.mem_cons_self ..)
    unfold toldP
    rw [List.foldl_cons, if_neg (by grind)]
    exact told_same cs s fun d hd => h d (List.mem_cons_of_mem _ hd)
theorem told_best {P : List Pt} (r : Ris P) : ∀ {here : Pt} {l : List (Rat × Pt)}, Turns P here l → ∀ {x y : Rat}, FL (V x) P here → x ≤ y → ∃ b, FL (V y) P b ∧ toldP y here.1 (l.map corOf) = b.1
  | here, _, .stop e, x, y, f, hy => ⟨here, fl_last r f e hy, rfl⟩
  | here, _, .go (p := p) (l := l) e t, x, y, f, hy => by
    obtain ⟨s1, s2, s3⟩ := fl_step r f e
    rcases @Rat.le_total (slope here p) y with h | h
    · obtain ⟨b, f2, e2⟩ := told_best r t s2 h
      refine ⟨b, f2, ?_⟩
      rw [List.map_cons]
      unfold toldP at e2 ⊢
      rw [List.foldl_cons, if_pos (show (corOf (slope here p, p)).1 ≤ y from h)]
      exact e2
    · by_cases k : y < slope here p
      · refine ⟨here, s3 y hy k, told_same _ _ fun c hc => ?_⟩
        obtain ⟨g, hg, rfl⟩ := List.mem_map.mp hc
        show y < g.1
        rcases List.mem_cons.mp hg with rfl | hg
        · exact k
        · have := ((turns_up r t s2).1 g hg).1
          grind
      · obtain ⟨b, f2, e2⟩ := told_best r t s2 (show slope here p ≤ y by grind)
        refine ⟨b, f2, ?_⟩
        rw [List.map_cons]
        unfold toldP at e2 ⊢
        rw [List.foldl_cons, if_pos (show (corOf (slope here p, p)).1 ≤ y by show slope here p ≤ y; grind)]
        exact e2
/-- what the law asks of the corners -/
theorem corners_best {P : List Pt} (r : Ris P) (hP : P ≠ []) {cs : List (Rat × Int)} (c : Corners P cs) : (cs.Pairwise fun a b => a.1 < b.1 ∧ b.2 < a.2) ∧ ∀ y : Rat, 0 ≤ y → ∃ b, FL (V y) P b ∧ toldP y 0 cs = b.1 := by
  obtain ⟨here, l, e, t, rfl, _⟩ := c
  have f0 : FL (fun q => q.2) P here := by
    cases P with
    | nil => exact absurd rfl hP
    | cons a P =>
      obtain ⟨q, e2, f⟩ := leastO_fl (fun q => q.2) a P r
      rw [e] at e2
      rw [Option.some.inj e2]
      exact f
  have f1 := fl_start f0
  obtain ⟨u1, u2⟩ := turns_up r t f1
  refine ⟨List.pairwise_cons.mpr ⟨fun c hc => ?_, u2⟩, fun y hy => ?_⟩
  · obtain ⟨g, hg, rfl⟩ := List.mem_map.mp hc
    exact u1 g hg
  · obtain ⟨b, f2, e2⟩ := told_best r t f1 hy
    refine ⟨b, f2, ?_⟩
    unfold toldP at e2 ⊢
    rw [List.foldl_cons, if_pos hy]
    exact e2
theorem turns_rb {P : List Pt} (ok : ∀ q, q ∈ P → PtOk q) : ∀ {here : Pt} {l : List (Rat × Pt)}, Turns P here l → here ∈ P → ∀ g, g ∈ l → RB 400 g.1
  | _, _, .stop _, _, g, hg => by simp at hg
  | here, _, .go (p := p) e t, hm, g, hg => by
    obtain ⟨m1, m2⟩ := next_mem e
    rcases List.mem_cons.mp hg with rfl | hg
    · exact (slope_rb (ok here hm) (ok p m1) m2).1
    · exact turns_rb ok t m1 g hg
theorem corners_rb {P : List Pt} (ok : ∀ q, q ∈ P → PtOk q) {cs : List (Rat × Int)} (c : Corners P cs) : ∀ d, d ∈ cs → RB 400 d.1 := by
  obtain ⟨here, l, e, t, rfl, _⟩ := c
  intro d hd
  rcases List.mem_cons.mp hd with rfl | hd
  · exact ⟨by show (0 : Nat) < 2 ^ 400; exact Nat.pow_pos (by omega), by show 1 < 2 ^ 400; exact Nat.one_lt_two_pow (by omega)⟩
  · obtain ⟨g, hg, rfl⟩ := List.mem_map.mp hd
    exact turns_rb ok t (leastO_mem e) g hg
theorem told_at {y : Rat} {A B : List (Rat × Int)} {a : Rat × Int} (s : Int) (h1 : a.1 ≤ y) (h2 : ∀ b, b ∈ B → y < b.1) : toldP y s (A ++ a :: B) = a.2 := by
  unfold toldP
  rw [List.foldl_append, List.foldl_cons, if_pos h1]
  exact told_same B a.2 h2
end Law
end PF
namespace PF
theorem set_same {h : Hs} {i : Nat} {c : Cell} (e : h[i]? = some c) : h.set i c = h := by
  obtain ⟨h1, h2⟩ := List.getElem?_eq_some_iff.mp e
  rw [← h2, List.set_getElem_self]
/-- the bag at b, what is left at l -/
def two (h : Hs) (b l : Nat) (x f m : Int) : Hs := (h.set b (.lst [.int x, .int f])).set l (.lst [.int m])
section
variable {h : Hs} {b l : Nat} {x f m y n : Int}
theorem two_len : (two h b l x f m).length = h.length := by simp [two]
theorem two_b (hb : b < h.length) (hn : b ≠ l) : (two h b l x f m)[b]? = some (.lst [.int x, .int f]) := by
  rw [two, List.getElem?_set, if_neg (fun e => hn e.symm), List.getElem?_set, if_pos rfl, if_pos hb]
theorem two_l (hl : l < h.length) : (two h b l x f m)[l]? = some (.lst [.int m]) := by
  rw [two, List.getElem?_set, if_pos rfl, if_pos (by rw [List.length_set]; exact hl)]
theorem two_two (hn : b ≠ l) : two (two h b l x f m) b l y f n = two h b l y f n := by
  unfold two
  rw [List.set_comm _ _ (fun e => hn e), List.set_set, List.set_comm _ _ (fun e => hn e.symm), List.set_set]
theorem two_self (e1 : h[b]? = some (.lst [.int x, .int f])) (e2 : h[l]? = some (.lst [.int m])) : two h b l x f m = h := by
  unfold two
  rw [set_same e1, set_same e2]
theorem two_setb (hn : b ≠ l) (e2 : h[l]? = some (.lst [.int m])) : h.set b (.lst [.int y, .int f]) = two h b l y f m := by
  unfold two
  rw [set_same (i := l)]
  rw [List.getElem?_set, if_neg hn]
  exact e2
theorem two_setl (e1 : h[b]? = some (.lst [.int x, .int f])) : h.set l (.lst [.int n]) = two h b l x f n := by
  unfold two
  rw [set_same e1]
theorem gc_two {w : W} (hw : w.pure = true) : gc h (.ok w (two h b l x f m)) = .ok w (two h b l x f m) := by
  have t : tame h (two h b l x f m) = true := tame_set rfl (tame_set rfl (tame_self' h))
  rw [gc_pureT hw t]
  congr 1
  rw [← two_len (h := h) (b := b) (l := l) (x := x) (f := f) (m := m), List.take_length]
end
namespace Law
theorem digit_e (b : Nat) (x f many : Int) (h : Hs) (hb : h[b]? = some (.lst [.int x, .int f])) (hm : 0 < many ∧ many < 2000) : ∃ r y : Int, (0 ≤ r ∧ r < many) ∧ f__law_digit [.ref b, .int many] h = .ok (.int r) (h.set b (.lst [.int y, .int f])) := by
  rw [f__law_digit_e]
  unfold b__law_digit
  have bl := (List.getElem?_eq_some_iff.mp hb).1
  have i0 := oIx_ref (k := 0) hb rfl
  have i1 := oIx_ref (k := 1) hb rfl
  have i0 : oIx (.ref b) (.int 0) h = .ok (.int x) h := i0
  have i1 : oIx (.ref b) (.int 1) h = .ok (.int f) h := i1
  have ts : ∀ y, tame h (h.set b (.lst [.int y, .int f])) = true := fun y => tame_set rfl (tame_self' h)
  have gg : ∀ (r y : Int), gc h (.ok (.int r) (h.set b (.lst [.int y, .int f]))) = .ok (.int r) (h.set b (.lst [.int y, .int f])) := fun r y => by
    rw [gc_pureT rfl (ts y)]
    congr 1
    have : (h.set b (.lst [.int y, .int f])).length = h.length := by simp
    rw [← this, List.take_length]
  by_cases k : f = 1
  · have m1 : oMod (.int x) (.int many) h = .ok (.int (x % many)) h := oModP hm.1
    have d1 : oDiv (.int x) (.int many) h = .ok (.int (x / many)) h := oDivS hm.1 (by omega)
    have st : stL (.ref b) (.int 0) (.int (x / many)) h = some (h.set b (.lst [.int (x / many), .int f])) := stL_0 hb
    refine ⟨x % many, x / many, ⟨Int.emod_nonneg _ (by omega), Int.emod_lt_of_pos _ hm.1⟩, ?_⟩
    simp only [sSeq_t, then_nx, then_ret, then_bk, then_ct, then_exc, sAsg_e, sIf_e, sRet_e, sRetN_e, sExp_e, sNx_e, sBrk_e, sCnt_e, sRaise_e, sFor_e, onR_ok, onR_exc, onO_some, run_n, run_t, runs_nil, runs_cons, Option.bind_some, dV_0, dV_1, dV_2, dV_3, dV_4, dV_5, dV_6, dV_7, dV_8, dV_9, dV_10, dV_11, dV_12, dV_13, dV_14, dV_15, dV_16, dC_e, dBin_e, dUn_e, dAnd_e, dOr_e, dNot_e, tVal_e, tAnd_e, tOr_e, tNot_e, dIf_e, dCall_e, aNil_e, aCons_e, dTup_e, Res.bind_ok, Res.bind_exc, asB_b, oAdd_i, oSub_i, oLt_i, oLe_i, oGt_i, oGe_i, oNeg_i, oEq_d, oNe_d, oEq_s, oNe_s, oAddI_i, bLen_fl, bLen_tup, bMax2_i, bMin2_i, List.length_cons, List.length_nil, List.length_map, Nat.zero_add, Nat.reduceAdd, Nat.reduceLT, big_lit0, big_lit1, big_lit2, big_lit3, big_lit4, if_true, if_false, List.set_cons_zero, List.set_cons_succ, decide_true, decide_false, Bool.not_true, Bool.not_false, Bool.false_eq_true, Bool.true_eq_false, decide_eq_true_eq, endF_ret, endF_nx, endF_exc, pAt_int, pNo_e, dSl_e, newL_e, cast0, cast1, cast2, cast3, cast4, cast5, i1, k, i0, m1, d1, sSub_e]
    rw [← k] at *
    rw [st]
    exact gg _ _
  · obtain ⟨z, hz⟩ : ∃ z, z = (x * 48271 + 11) % 2147483647 := ⟨_, rfl⟩
    have m1 : oMul (.int x) (.int 48271) h = .ok (.int (x * 48271)) h := oMul_i (mulOK_r (by decide))
    have m2 : oMod (.int (x * 48271 + 11)) (.int 2147483647) h = .ok (.int z) h := by rw [oModP (by omega), hz]
    have st : stL (.ref b) (.int 0) (.int z) h = some (h.set b (.lst [.int z, .int f])) := stL_0 hb
    have g2 : oIx (.ref b) (.int 0) (h.set b (.lst [.int z, .int f])) = .ok (.int z) (h.set b (.lst [.int z, .int f])) := oIx_ref (k := 0) (ws := [.int z, .int f]) (by rw [List.getElem?_set, if_pos rfl, if_pos bl]) rfl
    generalize hH : h.set b (.lst [.int z, .int f]) = H at *
    have m3 : oMul (.int z) (.int 16807) H = .ok (.int (z * 16807)) H := oMul_i (mulOK_r (by decide))
    have m4 : oMod (.int (z * 16807)) (.int 2147483629) H = .ok (.int (z * 16807 % 2147483629)) H := oModP (by omega)
    have d1 : oDiv (.int (z * 16807 % 2147483629)) (.int 8) H = .ok (.int (z * 16807 % 2147483629 / 8)) H := oDivS (by omega) (by omega)
    have m5 : oMod (.int (z * 16807 % 2147483629 / 8)) (.int many) H = .ok (.int (z * 16807 % 2147483629 / 8 % many)) H := oModP hm.1
    refine ⟨z * 16807 % 2147483629 / 8 % many, z, ⟨Int.emod_nonneg _ (by omega), Int.emod_lt_of_pos _ hm.1⟩, ?_⟩
    simp only [sSeq_t, then_nx, then_ret, then_bk, then_ct, then_exc, sAsg_e, sIf_e, sRet_e, sRetN_e, sExp_e, sNx_e, sBrk_e, sCnt_e, sRaise_e, sFor_e, onR_ok, onR_exc, onO_some, run_n, run_t, runs_nil, runs_cons, Option.bind_some, dV_0, dV_1, dV_2, dV_3, dV_4, dV_5, dV_6, dV_7, dV_8, dV_9, dV_10, dV_11, dV_12, dV_13, dV_14, dV_15, dV_16, dC_e, dBin_e, dUn_e, dAnd_e, dOr_e, dNot_e, tVal_e, tAnd_e, tOr_e, tNot_e, dIf_e, dCall_e, aNil_e, aCons_e, dTup_e, Res.bind_ok, Res.bind_exc, asB_b, oAdd_i, oSub_i, oLt_i, oLe_i, oGt_i, oGe_i, oNeg_i, oEq_d, oNe_d, oEq_s, oNe_s, oAddI_i, bLen_fl, bLen_tup, bMax2_i, bMin2_i, List.length_cons, List.length_nil, List.length_map, Nat.zero_add, Nat.reduceAdd, Nat.reduceLT, big_lit0, big_lit1, big_lit2, big_lit3, big_lit4, if_true, if_false, List.set_cons_zero, List.set_cons_succ, decide_true, decide_false, Bool.not_true, Bool.not_false, Bool.false_eq_true, Bool.true_eq_false, decide_eq_true_eq, endF_ret, endF_nx, endF_exc, pAt_int, pNo_e, dSl_e, newL_e, cast0, cast1, cast2, cast3, cast4, cast5, i1, k, i0, m1, m2, sSub_e, st, g2, m3, m4, d1, m5]
    rw [← hH]
    exact gg _ _
theorem grown_e (s f : Int) (hs : 0 < s ∧ s < 2 ^ 70) (b l : Nat) (hn : b ≠ l) : ∀ (n : Nat) (m : Nat) (x : Int) (h : Hs), m < n → m ≤ 15 → h[b]? = some (.lst [.int x, .int f]) → h[l]? = some (.lst [.int (m : Int)]) →
    ∃ (t : Tr) (y : Int) (k : Nat), k ≤ m ∧ t.leaves + k ≤ m + 1 ∧ TOk (80 * s) t ∧ f__law_grown n [.ref b, .ref l, .int s] h = .ok (trW t) (two h b l y f k)
  | n + 1, m, x, h, hmn, hm, eb, el => by
    rw [f__law_grown_e]
    unfold b__law_grown
    have bl := (List.getElem?_eq_some_iff.mp eb).1
    have ll := (List.getElem?_eq_some_iff.mp el).1
    have il : oIx (.ref l) (.int 0) h = .ok (.int (m : Int)) h := oIx_ref (k := 0) el rfl
    have ms : ∀ (z : Int) (h : Hs), z.natAbs < 2 ^ 64 → oMul (.int z) (.int s) h = .ok (.int (z * s)) h := fun z h hz => oMul_i (mulOK_l hz)
    -- an end
    have fin : ∀ (z : Int) (h1 : Hs), h1 = two h b l z f m → ∃ (t : Tr) (y : Int), t.leaves + m ≤ m + 1 ∧ TOk (80 * s) t ∧ sRet (dTup (aCons (dC (.str [101, 110, 100])) (aCons (dBin oMul (dBin oSub (dCall f__law_digit (aCons (dV 0) (aCons (dC (.int 61)) (aNil)))) (dC (.int 20))) (dV 2)) (aNil)))) [some (.ref b), some (.ref l), some (.int s), none, none] h1 = .ret (trW t) (two h b l y f m) := by
      rintro z h1 rfl
      obtain ⟨r, y, hr, er⟩ := digit_e b z f 61 (two h b l z f m) (two_b bl hn) (by omega)
      rw [two_setb hn (two_l ll), two_two hn] at er
      have v := mul_bd (a := r - 20) (s := s) (k := 80) (by omega) (by omega) (by omega)
      have ml := ms (r - 20) (two h b l y f m) (by omega)
      refine ⟨.en ((r - 20) * s), y, by show 1 + m ≤ m + 1; omega, ⟨Nat.zero_lt_one, ?_⟩, ?_⟩
      · show -((2 * ((1 : Nat) : Int) - 1) * (80 * s)) ≤ _ ∧ _ ≤ (2 * ((1 : Nat) : Int) - 1) * (80 * s)
        have : (2 * ((1 : Nat) : Int) - 1) * (80 * s) = 80 * s := by omega
        omega
      · generalize two h b l z f m = h1 at *
        generalize two h b l y f m = h2 at *
        simp only [sSeq_t, then_nx, then_ret, then_bk, then_ct, then_exc, sAsg_e, sIf_e, sRet_e, sRetN_e, sExp_e, sNx_e, sBrk_e, sCnt_e, sRaise_e, sFor_e, onR_ok, onR_exc, onO_some, run_n, run_t, runs_nil, runs_cons, Option.bind_some, dV_0, dV_1, dV_2, dV_3, dV_4, dV_5, dV_6, dV_7, dV_8, dV_9, dV_10, dV_11, dV_12, dV_13, dV_14, dV_15, dV_16, dC_e, dBin_e, dUn_e, dAnd_e, dOr_e, dNot_e, tVal_e, tAnd_e, tOr_e, tNot_e, dIf_e, dCall_e, aNil_e, aCons_e, dTup_e, Res.bind_ok, Res.bind_exc, asB_b, oAdd_i, oSub_i, oLt_i, oLe_i, oGt_i, oGe_i, oNeg_i, oEq_d, oNe_d, oEq_s, oNe_s, oAddI_i, bLen_fl, bLen_tup, bMax2_i, bMin2_i, List.length_cons, List.length_nil, List.length_map, Nat.zero_add, Nat.reduceAdd, Nat.reduceLT, big_lit0, big_lit1, big_lit2, big_lit3, big_lit4, if_true, if_false, List.set_cons_zero, List.set_cons_succ, decide_true, decide_false, Bool.not_true, Bool.not_false, Bool.false_eq_true, Bool.true_eq_false, decide_eq_true_eq, endF_ret, endF_nx, endF_exc, pAt_int, pNo_e, dSl_e, newL_e, cast0, cast1, cast2, cast3, cast4, cast5, er, ml]
        rfl
    by_cases hz : m = 0
    · obtain ⟨t, y, t1, t2, e⟩ := fin x h (two_self eb el).symm
      refine ⟨t, y, m, Nat.le_refl _, t1, t2, ?_⟩
      have z0 : (m : Int) = 0 := by omega
      have e1 : sIf (PF.tOr (tVal (dBin oEq (dBin oIx (dV 1) (dC (.int 0))) (dC (.int 0)))) (tVal (dBin oLt (dCall f__law_digit (aCons (dV 0) (aCons (dC (.int 5)) (aNil)))) (dC (.int 2))))) (sRet (dTup (aCons (dC (.str [101, 110, 100])) (aCons (dBin oMul (dBin oSub (dCall f__law_digit (aCons (dV 0) (aCons (dC (.int 61)) (aNil)))) (dC (.int 20))) (dV 2)) (aNil))))) (sNx) [some (.ref b), some (.ref l), some (.int s), none, none] h = .ret (trW t) (two h b l y f m) := by
        rw [sIf_e]
        have : PF.tOr (tVal (dBin oEq (dBin oIx (dV 1) (dC (.int 0))) (dC (.int 0)))) (tVal (dBin oLt (dCall f__law_digit (aCons (dV 0) (aCons (dC (.int 5)) (aNil)))) (dC (.int 2)))) [some (.ref b), some (.ref l), some (.int s), none, none] h = .ok true h := by simp only [sSeq_t, then_nx, then_ret, then_bk, then_ct, then_exc, sAsg_e, sIf_e, sRet_e, sRetN_e, sExp_e, sNx_e, sBrk_e, sCnt_e, sRaise_e, sFor_e, onR_ok, onR_exc, onO_some, run_n, run_t, runs_nil, runs_cons, Option.bind_some, dV_0, dV_1, dV_2, dV_3, dV_4, dV_5, dV_6, dV_7, dV_8, dV_9, dV_10, dV_11, dV_12, dV_13, dV_14, dV_15, dV_16, dC_e, dBin_e, dUn_e, dAnd_e, dOr_e, dNot_e, tVal_e, tAnd_e, tOr_e, tNot_e, dIf_e, dCall_e, aNil_e, aCons_e, dTup_e, Res.bind_ok, Res.bind_exc, asB_b, oAdd_i, oSub_i, oLt_i, oLe_i, oGt_i, oGe_i, oNeg_i, oEq_d, oNe_d, oEq_s, oNe_s, oAddI_i, bLen_fl, bLen_tup, bMax2_i, bMin2_i, List.length_cons, List.length_nil, List.length_map, Nat.zero_add, Nat.reduceAdd, Nat.reduceLT, big_lit0, big_lit1, big_lit2, big_lit3, big_lit4, if_true, if_false, List.set_cons_zero, List.set_cons_succ, decide_true, decide_false, Bool.not_true, Bool.not_false, Bool.false_eq_true, Bool.true_eq_false, decide_eq_true_eq, endF_ret, endF_nx, endF_exc, pAt_int, pNo_e, dSl_e, newL_e, cast0, cast1, cast2, cast3, cast4, cast5, il, z0]
        rw [this, onR_ok, if_pos rfl]
        exact e
      rw [sSeq_t, e1, then_ret, endF_ret]
      exact gc_two (trW_pure t)
    · obtain ⟨r, y, hr, er⟩ := digit_e b x f 5 h eb (by omega)
      rw [two_setb hn el] at er
      have z0 : ¬ (m : Int) = 0 := by omega
      obtain ⟨h1, hh1⟩ : ∃ h1, h1 = two h b l y f m := ⟨_, rfl⟩
      rw [← hh1] at er
      have eb1 : h1[b]? = some (.lst [.int y, .int f]) := by rw [hh1]; exact two_b bl hn
      have el1 : h1[l]? = some (.lst [.int (m : Int)]) := by rw [hh1]; exact two_l ll
      have tc : PF.tOr (tVal (dBin oEq (dBin oIx (dV 1) (dC (.int 0))) (dC (.int 0)))) (tVal (dBin oLt (dCall f__law_digit (aCons (dV 0) (aCons (dC (.int 5)) (aNil)))) (dC (.int 2)))) [some (.ref b), some (.ref l), some (.int s), none, none] h = .ok (decide (r < 2)) h1 := by simp only [sSeq_t, then_nx, then_ret, then_bk, then_ct, then_exc, sAsg_e, sIf_e, sRet_e, sRetN_e, sExp_e, sNx_e, sBrk_e, sCnt_e, sRaise_e, sFor_e, onR_ok, onR_exc, onO_some, run_n, run_t, runs_nil, runs_cons, Option.bind_some, dV_0, dV_1, dV_2, dV_3, dV_4, dV_5, dV_6, dV_7, dV_8, dV_9, dV_10, dV_11, dV_12, dV_13, dV_14, dV_15, dV_16, dC_e, dBin_e, dUn_e, dAnd_e, dOr_e, dNot_e, tVal_e, tAnd_e, tOr_e, tNot_e, dIf_e, dCall_e, aNil_e, aCons_e, dTup_e, Res.bind_ok, Res.bind_exc, asB_b, oAdd_i, oSub_i, oLt_i, oLe_i, oGt_i, oGe_i, oNeg_i, oEq_d, oNe_d, oEq_s, oNe_s, oAddI_i, bLen_fl, bLen_tup, bMax2_i, bMin2_i, List.length_cons, List.length_nil, List.length_map, Nat.zero_add, Nat.reduceAdd, Nat.reduceLT, big_lit0, big_lit1, big_lit2, big_lit3, big_lit4, if_true, if_false, List.set_cons_zero, List.set_cons_succ, decide_true, decide_false, Bool.not_true, Bool.not_false, Bool.false_eq_true, Bool.true_eq_false, decide_eq_true_eq, endF_ret, endF_nx, endF_exc, pAt_int, pNo_e, dSl_e, newL_e, cast0, cast1, cast2, cast3, cast4, cast5, il, z0, er]
      by_cases hr2 : r < 2
      · obtain ⟨t, y2, t1, t2, e⟩ := fin y h1 hh1
        refine ⟨t, y2, m, Nat.le_refl _, t1, t2, ?_⟩
        rw [sSeq_t, sIf_e, tc, onR_ok, if_pos (by simp [hr2]), e, then_ret, endF_ret]
        exact gc_two (trW_pure t)
      · rw [seq_nx (ρ1 := [some (.ref b), some (.ref l), some (.int s), none, none]) (h1 := h1) (by rw [sIf_e, tc, onR_ok, if_neg (by simp [hr2])]; rfl)]
        obtain ⟨k, hk⟩ : ∃ k, m = k + 1 := ⟨m - 1, by omega⟩
        have ek : (m : Int) - 1 = (k : Int) := by omega
        obtain ⟨h2, hh2⟩ : ∃ h2, h2 = two h b l y f k := ⟨_, rfl⟩
        rw [seq_nx (ρ1 := [some (.ref b), some (.ref l), some (.int s), none, none]) (h1 := h2) (by
          have ix : ixL (.ref l) (.int 0) h1 = some (.int (m : Int)) := by simp [ixL, el1]
          have st : stL (.ref l) (.int 0) (.int (k : Int)) h1 = some h2 := by
            rw [stL_0 el1, two_setl eb1, hh1, two_two hn, hh2]
          simp only [sAugX, dV_1, dC_e, onR_ok, ix, oSub_i, ek, st])]
        have eb2 : h2[b]? = some (.lst [.int y, .int f]) := by rw [hh2]; exact two_b bl hn
        have el2 : h2[l]? = some (.lst [.int (k : Int)]) := by rw [hh2]; exact two_l ll
        obtain ⟨t, y3, k3, q1, q2, q3, e3⟩ := grown_e s f hs b l hn n k y h2 (by omega) (by omega) eb2 el2
        rw [hh2, two_two hn, ← hh2] at e3
        obtain ⟨h3, hh3⟩ : ∃ h3, h3 = two h b l y3 f k3 := ⟨_, rfl⟩
        rw [← hh3] at e3
        have eb3 : h3[b]? = some (.lst [.int y3, .int f]) := by rw [hh3]; exact two_b bl hn
        have el3 : h3[l]? = some (.lst [.int (k3 : Int)]) := by rw [hh3]; exact two_l ll
        obtain ⟨u, y4, k4, w1, w2, w3, e4⟩ := grown_e s f hs b l hn n k3 y3 h3 (by omega) (by omega) eb3 el3
        rw [hh3, two_two hn, ← hh3] at e4
        obtain ⟨h4, hh4⟩ : ∃ h4, h4 = two h b l y4 f k4 := ⟨_, rfl⟩
        rw [← hh4] at e4
        have eb4 : h4[b]? = some (.lst [.int y4, .int f]) := by rw [hh4]; exact two_b bl hn
        have el4 : h4[l]? = some (.lst [.int (k4 : Int)]) := by rw [hh4]; exact two_l ll
        obtain ⟨r5, y5, hr5, er5⟩ := digit_e b y4 f 101 h4 eb4 (by omega)
        rw [two_setb hn el4, hh4, two_two hn, ← hh4] at er5
        have v := mul_bd (a := r5 - 20) (s := s) (k := 80) (by omega) (by omega) (by omega)
        have jo := q3.join w3 (by omega) v.1 v.2
        refine ⟨_, y5, k4, by omega, ?_, jo, ?_⟩
        · show t.leaves + u.leaves + k4 ≤ m + 1; omega
        have x1 := trW_1' t
        have x2 := trW_1' u
        have pu := trW_pure (Tr.fk (tcost t + tcost u + (r5 - 20) * s) t u)
        rw [trW] at pu ⊢
        have ml := ms (r5 - 20) (two h b l y5 f k4) (by omega)
        generalize trW t = TW at *
        generalize trW u = UW at *
        have g := gc_two (h := h) (b := b) (l := l) (x := y5) (f := f) (m := k4) pu
        generalize two h b l y5 f k4 = h5 at *
        simp only [sSeq_t, then_nx, then_ret, then_bk, then_ct, then_exc, sAsg_e, sIf_e, sRet_e, sRetN_e, sExp_e, sNx_e, sBrk_e, sCnt_e, sRaise_e, sFor_e, onR_ok, onR_exc, onO_some, run_n, run_t, runs_nil, runs_cons, Option.bind_some, dV_0, dV_1, dV_2, dV_3, dV_4, dV_5, dV_6, dV_7, dV_8, dV_9, dV_10, dV_11, dV_12, dV_13, dV_14, dV_15, dV_16, dC_e, dBin_e, dUn_e, dAnd_e, dOr_e, dNot_e, tVal_e, tAnd_e, tOr_e, tNot_e, dIf_e, dCall_e, aNil_e, aCons_e, dTup_e, Res.bind_ok, Res.bind_exc, asB_b, oAdd_i, oSub_i, oLt_i, oLe_i, oGt_i, oGe_i, oNeg_i, oEq_d, oNe_d, oEq_s, oNe_s, oAddI_i, bLen_fl, bLen_tup, bMax2_i, bMin2_i, List.length_cons, List.length_nil, List.length_map, Nat.zero_add, Nat.reduceAdd, Nat.reduceLT, big_lit0, big_lit1, big_lit2, big_lit3, big_lit4, if_true, if_false, List.set_cons_zero, List.set_cons_succ, decide_true, decide_false, Bool.not_true, Bool.not_false, Bool.false_eq_true, Bool.true_eq_false, decide_eq_true_eq, endF_ret, endF_nx, endF_exc, pAt_int, pNo_e, dSl_e, newL_e, cast0, cast1, cast2, cast3, cast4, cast5, e3, e4, x1, x2, er5, ml]
        exact g
end Law
end PF
namespace PF
namespace Law
/-! the ladder's corners are the path -/
/-- a pruning as cheap as the best has no fewer leaves -/
theorem bst_few {B : Int} (hB : 0 < B) (y : Rat) : ∀ {t : Tr} {p : List Nat} {L : List (List Nat)} {s : Int}, CutS t p L s → (bst B y t p).1 = val B y s L.length → (bst B y t p).2.length ≤ L.length
  | _, _, _, _, .here (.en c) p, _ => by rw [bst]; exact Nat.le_refl _
  | _, _, _, _, .here (.fk c t u) p, h => by
    have e : val B y (tcost (.fk c t u)) ([p] : List (List Nat)).length = Rat.divInt c B + y := val_one y c
    rw [e] at h
    rw [bst_fk] at h ⊢
    split at h
    · rename_i k
      unfold ins at k
      have h : bv B y t + bv B y u = Rat.divInt c B + y := h
      grind
    · rename_i k
      rw [if_neg k]
      exact Nat.le_refl _
  | _, p, _, _, .split (c := c) (a := a) (b := b) (t := t) (u := u) (A := A) (B := B2) x z, h => by
    have e : val B y (a + b) (B2 ++ A).length = val B y a A.length + val B y b B2.length := by
      rw [List.length_append, Nat.add_comm, val_add hB]
    have a1 := (bst_least hB y x).1
    have b1 := (bst_least hB y z).1
    rw [e] at h
    rw [bst_fk] at h ⊢
    split at h
    · rename_i k
      rw [if_pos k]
      have h : bv B y t + bv B y u = val B y a A.length + val B y b B2.length := h
      rw [bv_of] at a1 b1
      have a2 := bst_few hB y x (by rw [bv_of]; grind)
      have b2 := bst_few hB y z (by rw [bv_of]; grind)
      show ((bst B y u (p ++ sN)).2 ++ (bst B y t (p ++ sY)).2).length ≤ _
      rw [List.length_append, List.length_append]
      omega
    · rename_i k
      rw [if_neg k, List.length_append]
      have := x.cut.len
      show 1 ≤ _
      omega
theorem told_cons {y p : Rat} {s n : Int} {cs : List (Rat × Int)} (h : p ≤ y) : toldP y s ((p, n) :: cs) = toldP y n cs := by
  unfold toldP
  rw [List.foldl_cons, if_pos h]
theorem told_snoc {y : Rat} {s : Int} {cs : List (Rat × Int)} {c : Rat × Int} : toldP y s (cs ++ [c]) = if c.1 ≤ y then c.2 else toldP y s cs := by
  unfold toldP
  rw [List.foldl_append]
  rfl
abbrev RF (a b : Rat × Int) : Prop := a.1 < b.1 ∧ b.2 < a.2
theorem told_uniq : ∀ (cs ds : List (Rat × Int)) (p : Rat) (n m : Int), ((p, n) :: cs).Pairwise RF → ((p, m) :: ds).Pairwise RF → (∀ y, p ≤ y → toldP y n cs = toldP y m ds) → (p, n) :: cs = (p, m) :: ds
  | cs, ds, p, n, m, hc, hd, h => by
    have c1 := List.pairwise_cons.mp hc
    have d1 := List.pairwise_cons.mp hd
    have e : n = m := by
      have := h p Rat.le_refl
      rw [told_same cs n fun c hc => (c1.1 c hc).1, told_same ds m fun d hd => (d1.1 d hd).1] at this
      exact this
    subst e
    match cs, ds, c1, d1, h with
    | [], [], _, _, _ => rfl
    | [], (q, k) :: ds, _, d1, h =>
      have a := d1.1 (q, k) (List.mem_cons_self ..)
      have := h q (Rat.le_of_lt a.1)
      rw [told_cons Rat.le_refl, told_same ds k fun d hd => ((List.pairwise_cons.mp d1.2).1 d hd).1] at this
      have a2 : k < n := a.2
      have this : n = k := this
      omega
    | (q, k) :: cs, [], c1, _, h =>
      have a := c1.1 (q, k) (List.mem_cons_self ..)
      have := h q (Rat.le_of_lt a.1)
      rw [told_cons Rat.le_refl, told_same cs k fun d hd => ((List.pairwise_cons.mp c1.2).1 d hd).1] at this
      have a2 : k < n := a.2
      have this : k = n := this
      omega
    | (q, k) :: cs, (r, l) :: ds, c1, d1, h =>
      have a := c1.1 (q, k) (List.mem_cons_self ..)
      have b := d1.1 (r, l) (List.mem_cons_self ..)
      have a2 : k < n := a.2
      have b2 : l < n := b.2
      have a1 : p < q := a.1
      have b1 : p < r := b.1
      have k1 := fun d hd => ((List.pairwise_cons.mp c1.2).1 d hd).1
      have k2 := fun d hd => ((List.pairwise_cons.mp d1.2).1 d hd).1
      have eq : q = r := by
        by_cases l1 : q < r
        · have := h q (Rat.le_of_lt a1)
          rw [told_cons Rat.le_refl, told_same cs k k1, told_same ((r, l) :: ds) n fun d hd => by
            rcases List.mem_cons.mp hd with rfl | hd
            · exact l1
            · have : r < d.1 := k2 d hd
              grind] at this
          omega
        · by_cases l2 : r < q
          · have := h r (Rat.le_of_lt b1)
            rw [told_cons Rat.le_refl, told_same ds l k2, told_same ((q, k) :: cs) n fun d hd => by
              rcases List.mem_cons.mp hd with rfl | hd
              · exact l2
              · have : q < d.1 := k1 d hd
                grind] at this
            omega
          · grind
      subst eq
      have ih := told_uniq cs ds q k l c1.2 d1.2 fun y hy => by
        have := h y (by grind)
        rwa [told_cons hy, told_cons hy] at this
      rw [ih]
/-- the path's prices and numbers -/
def pathC (B : Int) (t : Tr) (K : Nat) : List (Rat × Int) := (List.range (K + 1)).map fun i => (yk B t i, (bn B (yk B t i) t : Int))
theorem path_rf {B : Int} (hB : 0 < B) {t : Tr} {K : Nat} (g : Good B t K) : (pathC B t K).Pairwise RF := by
  have step : ∀ j, j ≤ K → ∀ i, i < j → yk B t i < yk B t j ∧ bn B (yk B t j) t < bn B (yk B t i) t := by
    intro j
    induction j with
    | zero => intro _ i hi; omega
    | succ j ih =>
      intro hj i hi
      have n := nxt_is hB (g j (by omega))
      have e : nxt B t (yk B t j) = yk B t (j + 1) := rfl
      rw [e] at n
      rcases Nat.lt_or_eq_of_le (Nat.le_of_lt_succ hi) with h | h
      · have := ih (by omega) i h
        exact ⟨by grind, by omega⟩
      · rw [h]; exact ⟨n.1, n.2.2⟩
  refine List.pairwise_map.mpr ?_
  refine List.Pairwise.imp_of_mem (R := fun i j => i < j) ?_ List.pairwise_lt_range
  intro i j _ hj h
  have := step j (by have := List.mem_range.mp hj; omega) i h
  exact ⟨this.1, by show ((bn B (yk B t j) t : Nat) : Int) < (bn B (yk B t i) t : Nat); omega⟩
theorem path_told {B : Int} (hB : 0 < B) {t : Tr} {K : Nat} (g : Good B t K) (r : root B t (yk B t K)) {y : Rat} (hy : 0 ≤ y) : toldP y 0 (pathC B t K) = (bn B y t : Int) := by
  have key : ∀ J, ∃ j, j ≤ J ∧ yk B t j ≤ y ∧ (∀ i, j < i → i ≤ J → y < yk B t i) ∧ toldP y 0 (pathC B t J) = (bn B (yk B t j) t : Int) := by
    intro J
    induction J with
    | zero =>
      refine ⟨0, Nat.le_refl _, hy, fun i h1 h2 => by omega, ?_⟩
      exact told_cons (s := 0) (n := (bn B (yk B t 0) t : Int)) (cs := []) (show yk B t 0 ≤ y from hy)
    | succ J ih =>
      obtain ⟨j, j1, j2, j3, j4⟩ := ih
      have e : pathC B t (J + 1) = pathC B t J ++ [(yk B t (J + 1), (bn B (yk B t (J + 1)) t : Int))] := by
        unfold pathC
        rw [List.range_succ (n := J + 1), List.map_append]
        rfl
      rw [e, told_snoc]
      by_cases k : yk B t (J + 1) ≤ y
      · rw [if_pos k]
        exact ⟨J + 1, Nat.le_refl _, k, fun i h1 h2 => by omega, rfl⟩
      · rw [if_neg k]
        refine ⟨j, by omega, j2, fun i h1 h2 => ?_, j4⟩
        rcases Nat.lt_or_eq_of_le h2 with h | h
        · exact j3 i h1 (by omega)
        · rw [h]; exact Rat.not_le.mp k
  obtain ⟨j, j1, j2, j3, j4⟩ := key K
  rw [j4]
  have s := same_at hB g r j1 j2 fun h => j3 (j + 1) (by omega) (by omega)
  have e : bn B y t = bn B (yk B t j) t := by unfold bn; rw [s]
  rw [e]
/-- the ladder's points -/
def rgP (B : Int) (x : Rg × Nat) : Pt := ((x.2 : Int) + 1, Rat.divInt x.1.1 B)
theorem pts_get {B : Int} {R : List Rg} {b : Pt} (h : b ∈ R.zipIdx.map (rgP B)) : ∃ (k : Nat) (r : Rg), R[k]? = some r ∧ b = rgP B (r, k) := by
  obtain ⟨x, hx, rfl⟩ := List.mem_map.mp h
  obtain ⟨r, k⟩ := x
  have := List.mem_zipIdx' hx
  exact ⟨k, r, by rw [List.getElem?_eq_getElem this.1]; exact congrArg some this.2.symm, rfl⟩
theorem pts_in {B : Int} {R : List Rg} {k : Nat} {r : Rg} (h : R[k]? = some r) : rgP B (r, k) ∈ R.zipIdx.map (rgP B) := by
  refine List.mem_of_getElem? (i := k) ?_
  rw [List.getElem?_map, List.getElem?_zipIdx, h]
  simp
theorem pts_ris (B : Int) (R : List Rg) : Ris (R.zipIdx.map (rgP B)) := by
  have main : ∀ (R : List Rg) (m : Nat), Ris ((R.zipIdx m).map (rgP B)) ∧ ∀ b, b ∈ (R.zipIdx m).map (rgP B) → (m : Int) + 1 ≤ b.1 := by
    intro R
    induction R with
    | nil => intro m; exact ⟨List.Pairwise.nil, by simp⟩
    | cons r R ih =>
      intro m
      obtain ⟨i1, i2⟩ := ih (m + 1)
      rw [List.zipIdx_cons, List.map_cons]
      refine ⟨List.pairwise_cons.mpr ⟨fun b hb => ?_, i1⟩, fun b hb => ?_⟩
      · have := i2 b hb
        show (m : Int) + 1 < b.1
        omega
      · rcases List.mem_cons.mp hb with rfl | hb
        · exact Int.le_refl _
        · have := i2 b hb
          omega
  exact (main R 0).1
theorem v_val {B : Int} (y : Rat) (r : Rg) (k : Nat) : V y (rgP B (r, k)) = val B y r.1 (k + 1) := by
  unfold V rgP val
  have : (((k : Int) + 1 : Int) : Rat) = (((k + 1 : Nat) : Int) : Rat) := by
    congr 1
  rw [this]
theorem fl_is {B : Int} (hB : 0 < B) {t : Tr} {R : List Rg} (rR : Rows t R) {y : Rat} {b : Pt} (f : FL (V y) (R.zipIdx.map (rgP B)) b) : b.1 = (bn B y t : Int) := by
  obtain ⟨k, r, hr, rfl⟩ := pts_get f.1
  have br := rR.at_ k r hr
  have c0 := bst_S (B := B) y t []
  have l0 : (bst B y t []).2.length = bn B y t := rfl
  have bl := c0.cut.len
  rw [l0] at bl
  have h0l : bn B y t - 1 < R.length := by have := rR.len; omega
  have h0 : R[bn B y t - 1]? = some R[bn B y t - 1] := List.getElem?_eq_getElem h0l
  obtain ⟨r0, hr0⟩ : ∃ r0, R[bn B y t - 1]? = some r0 := ⟨_, h0⟩
  have b0 := rR.at_ _ r0 hr0
  have e0 : bn B y t - 1 + 1 = bn B y t := by omega
  have vb := bv_val hB y t
  -- the row of as many leaves is as cheap
  have q1 := (bst_least hB y b0.1).1
  have q2 := b0.2.2 _ _ c0 (by rw [l0]; omega)
  rw [b0.2.1, e0, bv_of] at q1
  have q3 : val B y r0.1 (bn B y t) ≤ val B y (bsm B y t) (bn B y t) := by
    unfold val
    have := (divInt_le (x := r0.1) (y := bsm B y t) hB).mpr q2
    grind
  have q4 : val B y r0.1 (bn B y t) = bv B y t := by grind
  have p1 := f.2 _ (pts_in (B := B) hr0)
  rw [v_val, v_val, e0, q4] at p1
  have p2 := (bst_least hB y br.1).1
  rw [br.2.1, bv_of] at p2
  have p3 : bv B y t = val B y r.1 (k + 1) := by grind
  have few := bst_few hB y br.1 (by rw [bv_of, br.2.1]; exact p3)
  rw [l0, br.2.1] at few
  show (k : Int) + 1 = _
  by_cases lt : (bn B y t : Int) < (k : Int) + 1
  · have : ((bn B y t - 1 : Nat) : Int) + 1 < (k : Int) + 1 := by omega
    have := p1.2 this
    grind
  · omega
theorem corners_path {B : Int} (hB : 0 < B) {t : Tr} {R : List Rg} (rR : Rows t R) {K : Nat} (g : Good B t K) (r : root B t (yk B t K)) {cs : List (Rat × Int)} (c : Corners (R.zipIdx.map (rgP B)) cs) : cs = pathC B t K := by
  have ne : R.zipIdx.map (rgP B) ≠ [] := fun z => by
    have := congrArg List.length z
    have l := rR.len
    have p := t.leaves_pos
    simp at this
    rw [this] at l
    simp at l
    omega
  obtain ⟨u1, u2⟩ := corners_best (pts_ris B R) ne c
  obtain ⟨here, l, _, _, rfl, _⟩ := c
  have hp := path_rf hB g
  have e : pathC B t K = (0, (bn B (yk B t 0) t : Int)) :: ((List.range K).map fun i => (yk B t (i + 1), (bn B (yk B t (i + 1)) t : Int))) := by
    unfold pathC
    rw [List.range_succ_eq_map, List.map_cons, List.map_map]
    rfl
  rw [e] at hp ⊢
  refine told_uniq _ _ 0 _ _ u1 hp fun y hy => ?_
  obtain ⟨b, b1, b2⟩ := u2 y hy
  have p := path_told hB g r hy
  rw [e, told_cons hy] at p
  rw [told_cons hy] at b2
  rw [p, b2, fl_is hB rR b1]
end Law
end PF
namespace PF
namespace Law
theorem scale_e (c : Int) (ρ : Env) (h : Hs) (a : D) (ha : a ρ h = .ok (.int c) h) : ∃ s : Int, (0 < s ∧ s ≤ 10 ^ 20) ∧ dBin oIx (dGz (dLst (aCons (dC (.int 1)) (aCons (dC (.int 1)) (aCons (dBin oPow (dC (.int 10)) (dC (.int 20))) (aNil)))))) (dBin oMod a (dC (.int 3))) ρ h = .ok (.int s) h := by
  have p20 : oPow (.int 10) (.int 20) h = .ok (.int (10 ^ 20)) h := oPow_i (by decide)
  have m3 : oMod (.int c) (.int 3) h = .ok (.int (c % 3)) h := oModP (by omega)
  have lz : dGz (dLst (aCons (dC (.int 1)) (aCons (dC (.int 1)) (aCons (dBin oPow (dC (.int 10)) (dC (.int 20))) (aNil))))) ρ h = .ok (.fl [.int 1, .int 1, .int (10 ^ 20)]) h := lst_gz (by simp only [sSeq_t, then_nx, then_ret, then_bk, then_ct, then_exc, sAsg_e, sIf_e, sRet_e, sRetN_e, sExp_e, sNx_e, sBrk_e, sCnt_e, sRaise_e, sFor_e, onR_ok, onR_exc, onO_some, run_n, run_t, runs_nil, runs_cons, Option.bind_some, dV_0, dV_1, dV_2, dV_3, dV_4, dV_5, dV_6, dV_7, dV_8, dV_9, dV_10, dV_11, dV_12, dV_13, dV_14, dV_15, dV_16, dC_e, dBin_e, dUn_e, dAnd_e, dOr_e, dNot_e, tVal_e, tAnd_e, tOr_e, tNot_e, dIf_e, dCall_e, aNil_e, aCons_e, dTup_e, Res.bind_ok, Res.bind_exc, asB_b, oAdd_i, oSub_i, oLt_i, oLe_i, oGt_i, oGe_i, oNeg_i, oEq_d, oNe_d, oEq_s, oNe_s, oAddI_i, bLen_fl, bLen_tup, bMax2_i, bMin2_i, List.length_cons, List.length_nil, List.length_map, Nat.zero_add, Nat.reduceAdd, Nat.reduceLT, big_lit0, big_lit1, big_lit2, big_lit3, big_lit4, if_true, if_false, List.set_cons_zero, List.set_cons_succ, decide_true, decide_false, Bool.not_true, Bool.not_false, Bool.false_eq_true, Bool.true_eq_false, decide_eq_true_eq, endF_ret, endF_nx, endF_exc, pAt_int, pNo_e, dSl_e, newL_e, cast0, cast1, cast2, cast3, cast4, cast5, p20]) (by simp) rfl
  obtain ⟨k, hk, hk2⟩ := mod_nat c 3 (by omega)
  have : k = 0 ∨ k = 1 ∨ k = 2 := by omega
  rcases this with rfl | rfl | rfl
  · exact ⟨1, by omega, by rw [dBin_e, lz, Res.bind_ok, dBin_e, ha]; simp only [sSeq_t, then_nx, then_ret, then_bk, then_ct, then_exc, sAsg_e, sIf_e, sRet_e, sRetN_e, sExp_e, sNx_e, sBrk_e, sCnt_e, sRaise_e, sFor_e, onR_ok, onR_exc, onO_some, run_n, run_t, runs_nil, runs_cons, Option.bind_some, dV_0, dV_1, dV_2, dV_3, dV_4, dV_5, dV_6, dV_7, dV_8, dV_9, dV_10, dV_11, dV_12, dV_13, dV_14, dV_15, dV_16, dC_e, dBin_e, dUn_e, dAnd_e, dOr_e, dNot_e, tVal_e, tAnd_e, tOr_e, tNot_e, dIf_e, dCall_e, aNil_e, aCons_e, dTup_e, Res.bind_ok, Res.bind_exc, asB_b, oAdd_i, oSub_i, oLt_i, oLe_i, oGt_i, oGe_i, oNeg_i, oEq_d, oNe_d, oEq_s, oNe_s, oAddI_i, bLen_fl, bLen_tup, bMax2_i, bMin2_i, List.length_cons, List.length_nil, List.length_map, Nat.zero_add, Nat.reduceAdd, Nat.reduceLT, big_lit0, big_lit1, big_lit2, big_lit3, big_lit4, if_true, if_false, List.set_cons_zero, List.set_cons_succ, decide_true, decide_false, Bool.not_true, Bool.not_false, Bool.false_eq_true, Bool.true_eq_false, decide_eq_true_eq, endF_ret, endF_nx, endF_exc, pAt_int, pNo_e, dSl_e, newL_e, cast0, cast1, cast2, cast3, cast4, cast5, m3, ← hk, oIx_f0]⟩
  · exact ⟨1, by omega, by rw [dBin_e, lz, Res.bind_ok, dBin_e, ha]; simp only [sSeq_t, then_nx, then_ret, then_bk, then_ct, then_exc, sAsg_e, sIf_e, sRet_e, sRetN_e, sExp_e, sNx_e, sBrk_e, sCnt_e, sRaise_e, sFor_e, onR_ok, onR_exc, onO_some, run_n, run_t, runs_nil, runs_cons, Option.bind_some, dV_0, dV_1, dV_2, dV_3, dV_4, dV_5, dV_6, dV_7, dV_8, dV_9, dV_10, dV_11, dV_12, dV_13, dV_14, dV_15, dV_16, dC_e, dBin_e, dUn_e, dAnd_e, dOr_e, dNot_e, tVal_e, tAnd_e, tOr_e, tNot_e, dIf_e, dCall_e, aNil_e, aCons_e, dTup_e, Res.bind_ok, Res.bind_exc, asB_b, oAdd_i, oSub_i, oLt_i, oLe_i, oGt_i, oGe_i, oNeg_i, oEq_d, oNe_d, oEq_s, oNe_s, oAddI_i, bLen_fl, bLen_tup, bMax2_i, bMin2_i, List.length_cons, List.length_nil, List.length_map, Nat.zero_add, Nat.reduceAdd, Nat.reduceLT, big_lit0, big_lit1, big_lit2, big_lit3, big_lit4, if_true, if_false, List.set_cons_zero, List.set_cons_succ, decide_true, decide_false, Bool.not_true, Bool.not_false, Bool.false_eq_true, Bool.true_eq_false, decide_eq_true_eq, endF_ret, endF_nx, endF_exc, pAt_int, pNo_e, dSl_e, newL_e, cast0, cast1, cast2, cast3, cast4, cast5, m3, ← hk, oIx_f1]⟩
  · refine ⟨10 ^ 20, by omega, ?_⟩
    have i2 : oIx (.fl [.int 1, .int 1, .int (10 ^ 20)]) (.int 2) h = .ok (.int (10 ^ 20)) h := oIx_fl (k := 2) rfl
    rw [dBin_e, lz, Res.bind_ok, dBin_e, ha]; simp only [sSeq_t, then_nx, then_ret, then_bk, then_ct, then_exc, sAsg_e, sIf_e, sRet_e, sRetN_e, sExp_e, sNx_e, sBrk_e, sCnt_e, sRaise_e, sFor_e, onR_ok, onR_exc, onO_some, run_n, run_t, runs_nil, runs_cons, Option.bind_some, dV_0, dV_1, dV_2, dV_3, dV_4, dV_5, dV_6, dV_7, dV_8, dV_9, dV_10, dV_11, dV_12, dV_13, dV_14, dV_15, dV_16, dC_e, dBin_e, dUn_e, dAnd_e, dOr_e, dNot_e, tVal_e, tAnd_e, tOr_e, tNot_e, dIf_e, dCall_e, aNil_e, aCons_e, dTup_e, Res.bind_ok, Res.bind_exc, asB_b, oAdd_i, oSub_i, oLt_i, oLe_i, oGt_i, oGe_i, oNeg_i, oEq_d, oNe_d, oEq_s, oNe_s, oAddI_i, bLen_fl, bLen_tup, bMax2_i, bMin2_i, List.length_cons, List.length_nil, List.length_map, Nat.zero_add, Nat.reduceAdd, Nat.reduceLT, big_lit0, big_lit1, big_lit2, big_lit3, big_lit4, if_true, if_false, List.set_cons_zero, List.set_cons_succ, decide_true, decide_false, Bool.not_true, Bool.not_false, Bool.false_eq_true, Bool.true_eq_false, decide_eq_true_eq, endF_ret, endF_nx, endF_exc, pAt_int, pNo_e, dSl_e, newL_e, cast0, cast1, cast2, cast3, cast4, cast5, m3, ← hk, i2]
/-- what a price makes of a sum -/
def wth (s : Int) (n : Nat) (a b B : Int) : Int := s * b + a * B * n
theorem worth_le {a b B : Int} (hB : 0 < B) (hb : 0 < b) {t : Tr} {L : List (List Nat)} {s : Int} (c : CutS t [] L s) : wth (bsm B (Rat.divInt a b) t) (bn B (Rat.divInt a b) t) a b B ≤ wth s L.length a b B := by
  have q := (bst_least hB (Rat.divInt a b) c).1
  rw [bv_of, bv_val hB, val_tot hB hb, val_tot hB hb, divInt_le (Int.mul_pos hB hb)] at q
  unfold wth
  have e : ∀ n : Nat, a * B * n = a * n * B := fun n => by rw [Int.mul_assoc, Int.mul_comm B, Int.mul_assoc]
  rw [e, e]
  exact q
theorem worth_e (s : Int) (n : Nat) (a b B : Int) (h1 : s.natAbs < 2 ^ 120) (h2 : n ≤ 100) (h3 : a.natAbs < 2 ^ 100) (h4 : b.natAbs < 2 ^ 100) (h5 : B.natAbs < 2 ^ 100) (h : Hs) : f__law_worth [.int s, .int (n : Nat), .int B, .tup [.int a, .int b]] h = .ok (.int (wth s n a b B)) h := by
  rw [f__law_worth_e]
  unfold b__law_worth
  have m1 : oMul (.int s) (.int b) h = .ok (.int (s * b)) h := oMul_i (mulOK_of (a := 120) (b := 100) h1 h4 (by omega))
  have m2 : oMul (.int a) (.int B) h = .ok (.int (a * B)) h := oMul_i (mulOK_of (a := 100) (b := 100) h3 h5 (by omega))
  have m3 : oMul (.int (a * B)) (.int (n : Nat)) h = .ok (.int (a * B * (n : Nat))) h := oMul_i (mulOK_r (by omega))
  obtain ⟨N, hN⟩ : ∃ N : Int, N = (n : Nat) := ⟨_, rfl⟩
  have ew : wth s n a b B = s * b + a * B * N := by rw [hN]; rfl
  rw [ew]
  rw [← hN] at m3 ⊢
  have i0 : oIx (.tup [.int a, .int b]) (.int 0) h = .ok (.int a) h := oIx_t0
  have i1 : oIx (.tup [.int a, .int b]) (.int 1) h = .ok (.int b) h := oIx_t1
  simp only [sSeq_t, then_nx, then_ret, then_bk, then_ct, then_exc, sAsg_e, sIf_e, sRet_e, sRetN_e, sExp_e, sNx_e, sBrk_e, sCnt_e, sRaise_e, sFor_e, onR_ok, onR_exc, onO_some, run_n, run_t, runs_nil, runs_cons, Option.bind_some, dV_0, dV_1, dV_2, dV_3, dV_4, dV_5, dV_6, dV_7, dV_8, dV_9, dV_10, dV_11, dV_12, dV_13, dV_14, dV_15, dV_16, dC_e, dBin_e, dUn_e, dAnd_e, dOr_e, dNot_e, tVal_e, tAnd_e, tOr_e, tNot_e, dIf_e, dCall_e, aNil_e, aCons_e, dTup_e, Res.bind_ok, Res.bind_exc, asB_b, oAdd_i, oSub_i, oLt_i, oLe_i, oGt_i, oGe_i, oNeg_i, oEq_d, oNe_d, oEq_s, oNe_s, oAddI_i, bLen_fl, bLen_tup, bMax2_i, bMin2_i, List.length_cons, List.length_nil, List.length_map, Nat.zero_add, Nat.reduceAdd, Nat.reduceLT, big_lit0, big_lit1, big_lit2, big_lit3, big_lit4, if_true, if_false, List.set_cons_zero, List.set_cons_succ, decide_true, decide_false, Bool.not_true, Bool.not_false, Bool.false_eq_true, Bool.true_eq_false, decide_eq_true_eq, endF_ret, endF_nx, endF_exc, pAt_int, pNo_e, dSl_e, newL_e, cast0, cast1, cast2, cast3, cast4, cast5, i0, i1, m1, m2, m3]
  exact gc_same _
theorem cw_sz {t : Tr} {L : List (List Nat)} {s : Int} (c : CutS t [] L s) (tc : t.costs (2 ^ 90)) (hl : t.leaves ≤ 100) : s.natAbs < 2 ^ 98 ∧ L.length ≤ 100 := by
  have sz := c.sz tc
  have ln := c.cut.len
  have : (L.length : Int) * 2 ^ 90 ≤ 100 * 2 ^ 90 := Int.mul_le_mul_of_nonneg_right (by omega) (by omega)
  omega
/-- one price -/
theorem in41 (w0 : Option W) (s B : Int) (hB : 0 < B ∧ B < 2 ^ 60) {t : Tr} (hh : t.high < 50) (hl : t.leaves ≤ 40) (tc : t.costs (2 ^ 90)) {R : List Rg} (rR : Rows t R) {K : Nat} (g : Good B t K) (r : root B t (yk B t K)) (c a b : Int) (ha : 0 ≤ a ∧ a < 2 ^ 90) (hb : 0 < b ∧ b < 2 ^ 90) (w5 w8 w9 e11 e12 e13 e14 e15 : Option W) (h : Hs) : ∃ e11' e12' e13' e14', L2_law [w0, some (.int s), some (.int B), some (trW t), some (.int c), w5, some (.fl (R.zipIdx.map (rdW B))), some (.fl (stepsW B t K)), w8, w9, some (.tup [.int a, .int b]), e11, e12, e13, e14, e15] h = .nx [w0, some (.int s), some (.int B), some (trW t), some (.int c), w5, some (.fl (R.zipIdx.map (rdW B))), some (.fl (stepsW B t K)), w8, w9, some (.tup [.int a, .int b]), e11', e12', e13', e14', e15] h := by
  have tc2 : t.costs (2 ^ 105) := t.costs_le (by omega) tc
  have hB2 : 0 < B ∧ B < 2 ^ 100 := ⟨hB.1, by omega⟩
  obtain ⟨p, hp⟩ : ∃ p, p = Rat.divInt a b := ⟨_, rfl⟩
  have p0 : 0 ≤ p := by rw [hp]; exact Rat.divInt_nonneg ha.1 (by omega)
  have rp : RB 1500 p := by rw [hp]; exact (rb_of (n := 100) hb.1 (by omega) (by omega)).le (by omega)
  have lr := lrat_q a b h hb.1 (Nat.lt_of_lt_of_le (by omega : b.natAbs < 2 ^ 100) (Nat.pow_le_pow_right (by omega) (by omega)))
  rw [← hp] at lr
  have fp := forprice_e hB2 (by omega) tc2 g r p p0 rp h
  have c0 := bst_S (B := B) p t []
  have l0 : (bst B p t []).2.length = bn B p t := rfl
  have z0 := cw_sz c0 tc (by omega)
  have ip := isp2_e hh (by omega) c0.cut (h := h) (Lw.fl (ws := (bst B p t []).2.map W.str))
  have su := sum_e c0.cut (h := h) (Lw.fl (ws := (bst B p t []).2.map W.str))
  rw [c0.costL] at su
  have bl : ((bst B p t []).2.map W.str).length = bn B p t := by rw [List.length_map, l0]
  rw [l0] at z0
  have wo := worth_e (bsm B p t) (bn B p t) a b B (by omega) z0.2 (by omega) (by omega) (by omega) h
  obtain ⟨due, hdue⟩ : ∃ due, due = wth (bsm B p t) (bn B p t) a b B := ⟨_, rfl⟩
  rw [← hdue] at wo
  have le : ∀ {L : List (List Nat)} {s : Int}, CutS t [] L s → ¬ wth s L.length a b B < due := fun cs => by
    have := worth_le (a := a) hB.1 hb.1 cs
    rw [← hp, ← hdue] at this
    omega
  obtain ⟨z, ez⟩ := lnext_e c 1 (by omega) h
  obtain ⟨L, x, cx, ed⟩ := drawn2_e t 64 [] z h (by omega) (by simp; omega) (by omega)
  have zx := cw_sz cx tc (by omega)
  have s1 := sum_e cx.cut (h := h) (Lw.fl (ws := L.map W.str))
  rw [cx.costL] at s1
  have wx := worth_e x L.length a b B (by omega) zx.2 (by omega) (by omega) (by omega) h
  have bL : (L.map W.str).length = L.length := List.length_map _
  have nl := le cx
  have rl := rR.len
  -- the rungs
  have rows : ∀ (k : Nat) (r : Rg), R[k]? = some r → f__law_sum [trW t, .fl (r.2.map W.str)] h = .ok (.int r.1) h ∧ f__law_worth [.int r.1, .int ((k : Int) + 1), .int B, .tup [.int a, .int b]] h = .ok (.int (wth r.1 (k + 1) a b B)) h ∧ ¬ wth r.1 (k + 1) a b B < due := fun k r hr => by
    have br := rR.at_ k r hr
    have zr := cw_sz br.1 tc (by omega)
    have sr := sum_e br.1.cut (h := h) (Lw.fl (ws := r.2.map W.str))
    rw [br.1.costL] at sr
    rw [br.2.1] at zr
    have wr := worth_e r.1 (k + 1) a b B (by omega) zr.2 (by omega) (by omega) (by omega) h
    have ek : ((k + 1 : Nat) : Int) = (k : Int) + 1 := by omega
    rw [ek] at wr
    have nr := le br.1
    rw [br.2.1] at nr
    exact ⟨sr, wr, nr⟩
  have hSS : ∃ SS, SS = stepsW B t K := ⟨_, rfl⟩
  obtain ⟨SS, hSS⟩ := hSS
  rw [← hSS] at fp ⊢
  obtain ⟨TW, hTW⟩ : ∃ TW, TW = trW t := ⟨_, rfl⟩
  rw [← hTW] at ip su ed s1 ⊢
  obtain ⟨LW, hLW⟩ : ∃ LW, LW = (bst B p t []).2.map W.str := ⟨_, rfl⟩
  rw [← hLW] at fp ip su bl
  have i0 : oIx (.tup [.int a, .int b]) (.int 0) h = .ok (.int a) h := oIx_t0
  have i1 : oIx (.tup [.int a, .int b]) (.int 1) h = .ok (.int b) h := oIx_t1
  unfold L2_law
  rw [seq_nx (ρ1 := [w0, some (.int s), some (.int B), some TW, some (.int c), w5, some (.fl (R.zipIdx.map (rdW B))), some (.fl SS), w8, w9, some (.tup [.int a, .int b]), some (.fl LW), e12, e13, e14, e15]) (h1 := h) (by
    simp only [sSeq_t, then_nx, then_ret, then_bk, then_ct, then_exc, sAsg_e, sIf_e, sRet_e, sRetN_e, sExp_e, sNx_e, sBrk_e, sCnt_e, sRaise_e, sFor_e, onR_ok, onR_exc, onO_some, run_n, run_t, runs_nil, runs_cons, Option.bind_some, dV_0, dV_1, dV_2, dV_3, dV_4, dV_5, dV_6, dV_7, dV_8, dV_9, dV_10, dV_11, dV_12, dV_13, dV_14, dV_15, dV_16, dC_e, dBin_e, dUn_e, dAnd_e, dOr_e, dNot_e, tVal_e, tAnd_e, tOr_e, tNot_e, dIf_e, dCall_e, aNil_e, aCons_e, dTup_e, Res.bind_ok, Res.bind_exc, asB_b, oAdd_i, oSub_i, oLt_i, oLe_i, oGt_i, oGe_i, oNeg_i, oEq_d, oNe_d, oEq_s, oNe_s, oAddI_i, bLen_fl, bLen_tup, bMax2_i, bMin2_i, List.length_cons, List.length_nil, List.length_map, Nat.zero_add, Nat.reduceAdd, Nat.reduceLT, big_lit0, big_lit1, big_lit2, big_lit3, big_lit4, if_true, if_false, List.set_cons_zero, List.set_cons_succ, decide_true, decide_false, Bool.not_true, Bool.not_false, Bool.false_eq_true, Bool.true_eq_false, decide_eq_true_eq, endF_ret, endF_nx, endF_exc, pAt_int, pNo_e, dSl_e, newL_e, cast0, cast1, cast2, cast3, cast4, cast5, i0, i1, lr, fp])]
  rw [seq_nx (ρ1 := [w0, some (.int s), some (.int B), some TW, some (.int c), w5, some (.fl (R.zipIdx.map (rdW B))), some (.fl SS), w8, w9, some (.tup [.int a, .int b]), some (.fl LW), e12, e13, e14, e15]) (h1 := h) (by
    simp only [sSeq_t, then_nx, then_ret, then_bk, then_ct, then_exc, sAsg_e, sIf_e, sRet_e, sRetN_e, sExp_e, sNx_e, sBrk_e, sCnt_e, sRaise_e, sFor_e, onR_ok, onR_exc, onO_some, run_n, run_t, runs_nil, runs_cons, Option.bind_some, dV_0, dV_1, dV_2, dV_3, dV_4, dV_5, dV_6, dV_7, dV_8, dV_9, dV_10, dV_11, dV_12, dV_13, dV_14, dV_15, dV_16, dC_e, dBin_e, dUn_e, dAnd_e, dOr_e, dNot_e, tVal_e, tAnd_e, tOr_e, tNot_e, dIf_e, dCall_e, aNil_e, aCons_e, dTup_e, Res.bind_ok, Res.bind_exc, asB_b, oAdd_i, oSub_i, oLt_i, oLe_i, oGt_i, oGe_i, oNeg_i, oEq_d, oNe_d, oEq_s, oNe_s, oAddI_i, bLen_fl, bLen_tup, bMax2_i, bMin2_i, List.length_cons, List.length_nil, List.length_map, Nat.zero_add, Nat.reduceAdd, Nat.reduceLT, big_lit0, big_lit1, big_lit2, big_lit3, big_lit4, if_true, if_false, List.set_cons_zero, List.set_cons_succ, decide_true, decide_false, Bool.not_true, Bool.not_false, Bool.false_eq_true, Bool.true_eq_false, decide_eq_true_eq, endF_ret, endF_nx, endF_exc, pAt_int, pNo_e, dSl_e, newL_e, cast0, cast1, cast2, cast3, cast4, cast5, ip])]
  rw [seq_nx (ρ1 := [w0, some (.int s), some (.int B), some TW, some (.int c), w5, some (.fl (R.zipIdx.map (rdW B))), some (.fl SS), w8, w9, some (.tup [.int a, .int b]), some (.fl LW), some (.int due), e13, e14, e15]) (h1 := h) (by
    simp only [sSeq_t, then_nx, then_ret, then_bk, then_ct, then_exc, sAsg_e, sIf_e, sRet_e, sRetN_e, sExp_e, sNx_e, sBrk_e, sCnt_e, sRaise_e, sFor_e, onR_ok, onR_exc, onO_some, run_n, run_t, runs_nil, runs_cons, Option.bind_some, dV_0, dV_1, dV_2, dV_3, dV_4, dV_5, dV_6, dV_7, dV_8, dV_9, dV_10, dV_11, dV_12, dV_13, dV_14, dV_15, dV_16, dC_e, dBin_e, dUn_e, dAnd_e, dOr_e, dNot_e, tVal_e, tAnd_e, tOr_e, tNot_e, dIf_e, dCall_e, aNil_e, aCons_e, dTup_e, Res.bind_ok, Res.bind_exc, asB_b, oAdd_i, oSub_i, oLt_i, oLe_i, oGt_i, oGe_i, oNeg_i, oEq_d, oNe_d, oEq_s, oNe_s, oAddI_i, bLen_fl, bLen_tup, bMax2_i, bMin2_i, List.length_cons, List.length_nil, List.length_map, Nat.zero_add, Nat.reduceAdd, Nat.reduceLT, big_lit0, big_lit1, big_lit2, big_lit3, big_lit4, if_true, if_false, List.set_cons_zero, List.set_cons_succ, decide_true, decide_false, Bool.not_true, Bool.not_false, Bool.false_eq_true, Bool.true_eq_false, decide_eq_true_eq, endF_ret, endF_nx, endF_exc, pAt_int, pNo_e, dSl_e, newL_e, cast0, cast1, cast2, cast3, cast4, cast5, su, bl, wo])]
  obtain ⟨ρ', h', e, d13, rfl, rfl⟩ := forL_all (g := [(.fl (R.zipIdx.map (rdW B)), R.zipIdx.map (rdW B))]) (tg := .n 13) (b := L1_law) (fun j ρ h' => ∃ (d13 : Option W), h' = h ∧ ρ = [w0, some (.int s), some (.int B), some TW, some (.int c), w5, some (.fl (R.zipIdx.map (rdW B))), some (.fl SS), w8, w9, some (.tup [.int a, .int b]), some (.fl LW), some (.int due), d13, e14, e15])
    (R.zipIdx.map (rdW B)) [w0, some (.int s), some (.int B), some TW, some (.int c), w5, some (.fl (R.zipIdx.map (rdW B))), some (.fl SS), w8, w9, some (.tup [.int a, .int b]), some (.fl LW), some (.int due), e13, e14, e15] h ⟨e13, rfl, rfl⟩ (fun _ _ _ _ => stays_fl) (by
    rintro k w ρ h' hw ⟨d13, rfl, rfl⟩
    rw [List.getElem?_map, List.getElem?_zipIdx] at hw
    cases hr : R[k]? with
    | none => rw [hr] at hw; simp at hw
    | some r =>
      rw [hr] at hw
      have hw : rdW B (r, k) = w := by simpa using hw
      subst hw
      obtain ⟨q1, q2, q3⟩ := rows k r hr
      rw [← hTW] at q1
      have j0 : ∀ h, oIx (rdW B (r, k)) (.int 0) h = .ok (.int ((k : Int) + 1)) h := fun h => oIx_t0
      have j2 : ∀ h, oIx (rdW B (r, k)) (.int 2) h = .ok (.fl (r.2.map W.str)) h := fun h => oIx_t2
      generalize rdW B (r, k) = DW at *
      generalize r.2.map W.str = RW at *
      refine ⟨[w0, some (.int s), some (.int B), some TW, some (.int c), w5, some (.fl (R.zipIdx.map (rdW B))), some (.fl SS), w8, w9, some (.tup [.int a, .int b]), some (.fl LW), some (.int due), some DW, e14, e15], rfl, .inl ⟨[w0, some (.int s), some (.int B), some TW, some (.int c), w5, some (.fl (R.zipIdx.map (rdW B))), some (.fl SS), w8, w9, some (.tup [.int a, .int b]), some (.fl LW), some (.int due), some DW, e14, e15], h', ?_, _, rfl, rfl⟩⟩
      generalize R.zipIdx.map (rdW B) = ZW at *
      unfold L1_law
      simp only [sSeq_t, then_nx, then_ret, then_bk, then_ct, then_exc, sAsg_e, sIf_e, sRet_e, sRetN_e, sExp_e, sNx_e, sBrk_e, sCnt_e, sRaise_e, sFor_e, onR_ok, onR_exc, onO_some, run_n, run_t, runs_nil, runs_cons, Option.bind_some, dV_0, dV_1, dV_2, dV_3, dV_4, dV_5, dV_6, dV_7, dV_8, dV_9, dV_10, dV_11, dV_12, dV_13, dV_14, dV_15, dV_16, dC_e, dBin_e, dUn_e, dAnd_e, dOr_e, dNot_e, tVal_e, tAnd_e, tOr_e, tNot_e, dIf_e, dCall_e, aNil_e, aCons_e, dTup_e, Res.bind_ok, Res.bind_exc, asB_b, oAdd_i, oSub_i, oLt_i, oLe_i, oGt_i, oGe_i, oNeg_i, oEq_d, oNe_d, oEq_s, oNe_s, oAddI_i, bLen_fl, bLen_tup, bMax2_i, bMin2_i, List.length_cons, List.length_nil, List.length_map, Nat.zero_add, Nat.reduceAdd, Nat.reduceLT, big_lit0, big_lit1, big_lit2, big_lit3, big_lit4, if_true, if_false, List.set_cons_zero, List.set_cons_succ, decide_true, decide_false, Bool.not_true, Bool.not_false, Bool.false_eq_true, Bool.true_eq_false, decide_eq_true_eq, endF_ret, endF_nx, endF_exc, pAt_int, pNo_e, dSl_e, newL_e, cast0, cast1, cast2, cast3, cast4, cast5, j0, j2, q1, q2, q3])
  rw [seq_nx (by rw [sFor_e, iAny_fl (h1 := h') rfl, onR_ok]; exact e)]
  refine ⟨some (.fl LW), some (.int due), d13, some (.fl (L.map W.str)), ?_⟩
  generalize R.zipIdx.map (rdW B) = ZW at *
  generalize L.map W.str = XW at *
  simp only [sSeq_t, then_nx, then_ret, then_bk, then_ct, then_exc, sAsg_e, sIf_e, sRet_e, sRetN_e, sExp_e, sNx_e, sBrk_e, sCnt_e, sRaise_e, sFor_e, onR_ok, onR_exc, onO_some, run_n, run_t, runs_nil, runs_cons, Option.bind_some, dV_0, dV_1, dV_2, dV_3, dV_4, dV_5, dV_6, dV_7, dV_8, dV_9, dV_10, dV_11, dV_12, dV_13, dV_14, dV_15, dV_16, dC_e, dBin_e, dUn_e, dAnd_e, dOr_e, dNot_e, tVal_e, tAnd_e, tOr_e, tNot_e, dIf_e, dCall_e, aNil_e, aCons_e, dTup_e, Res.bind_ok, Res.bind_exc, asB_b, oAdd_i, oSub_i, oLt_i, oLe_i, oGt_i, oGe_i, oNeg_i, oEq_d, oNe_d, oEq_s, oNe_s, oAddI_i, bLen_fl, bLen_tup, bMax2_i, bMin2_i, List.length_cons, List.length_nil, List.length_map, Nat.zero_add, Nat.reduceAdd, Nat.reduceLT, big_lit0, big_lit1, big_lit2, big_lit3, big_lit4, if_true, if_false, List.set_cons_zero, List.set_cons_succ, decide_true, decide_false, Bool.not_true, Bool.not_false, Bool.false_eq_true, Bool.true_eq_false, decide_eq_true_eq, endF_ret, endF_nx, endF_exc, pAt_int, pNo_e, dSl_e, newL_e, cast0, cast1, cast2, cast3, cast4, cast5, ez, ed, s1, bL, wx, nl]
theorem law_true : LawTrue f_law := by
  intro ns hl
  rw [f_law_e]
  unfold b_law
  refine ⟨[], ?_⟩
  obtain ⟨s, hs, es⟩ := scale_e (ns[0]?.getD 0) [some (.fl (ns.map W.int)), none, none, none, none, none, none, none, none, none, none, none, none, none, none, none] [] (dCall f__law_cell (aCons (dV 0) (aCons (dC (.int 0)) (aNil)))) (by simp only [sSeq_t, then_nx, then_ret, then_bk, then_ct, then_exc, sAsg_e, sIf_e, sRet_e, sRetN_e, sExp_e, sNx_e, sBrk_e, sCnt_e, sRaise_e, sFor_e, onR_ok, onR_exc, onO_some, run_n, run_t, runs_nil, runs_cons, Option.bind_some, dV_0, dV_1, dV_2, dV_3, dV_4, dV_5, dV_6, dV_7, dV_8, dV_9, dV_10, dV_11, dV_12, dV_13, dV_14, dV_15, dV_16, dC_e, dBin_e, dUn_e, dAnd_e, dOr_e, dNot_e, tVal_e, tAnd_e, tOr_e, tNot_e, dIf_e, dCall_e, aNil_e, aCons_e, dTup_e, Res.bind_ok, Res.bind_exc, asB_b, oAdd_i, oSub_i, oLt_i, oLe_i, oGt_i, oGe_i, oNeg_i, oEq_d, oNe_d, oEq_s, oNe_s, oAddI_i, bLen_fl, bLen_tup, bMax2_i, bMin2_i, List.length_cons, List.length_nil, List.length_map, Nat.zero_add, Nat.reduceAdd, Nat.reduceLT, big_lit0, big_lit1, big_lit2, big_lit3, big_lit4, if_true, if_false, List.set_cons_zero, List.set_cons_succ, decide_true, decide_false, Bool.not_true, Bool.not_false, Bool.false_eq_true, Bool.true_eq_false, decide_eq_true_eq, endF_ret, endF_nx, endF_exc, pAt_int, pNo_e, dSl_e, newL_e, cast0, cast1, cast2, cast3, cast4, cast5, cell_0])
  rw [seq_nx (ρ1 := [some (.fl (ns.map W.int)), some (.int s), none, none, none, none, none, none, none, none, none, none, none, none, none, none]) (h1 := []) (by rw [sAsg_e, es]; rfl)]
  have p9 : ∀ h, oPow (.int 10) (.int 9) h = .ok (.int (10 ^ 9)) h := fun h => oPow_i (by decide)
  have m9 : ∀ (c : Int) h, oMod (.int c) (.int (10 ^ 9)) h = .ok (.int (c % 10 ^ 9)) h := fun c h => oModP (by omega)
  obtain ⟨B, hBe⟩ : ∃ B : Int, B = 1 + (ns[1]?.getD 0) % 10 ^ 9 := ⟨_, rfl⟩
  have hB : 0 < B ∧ B < 2 ^ 60 := by
    have b1 := Int.emod_nonneg (ns[1]?.getD 0) (show (10 ^ 9 : Int) ≠ 0 by omega)
    have b2 := Int.emod_lt_of_pos (ns[1]?.getD 0) (show (0 : Int) < 10 ^ 9 by omega)
    omega
  have hB2 : 0 < B ∧ B < 2 ^ 100 := ⟨hB.1, by omega⟩
  have hs2 : 0 < s ∧ s < 2 ^ 70 := by omega
  rw [seq_nx (ρ1 := [some (.fl (ns.map W.int)), some (.int s), some (.int B), none, none, none, none, none, none, none, none, none, none, none, none, none]) (h1 := []) (by
    simp only [sSeq_t, then_nx, then_ret, then_bk, then_ct, then_exc, sAsg_e, sIf_e, sRet_e, sRetN_e, sExp_e, sNx_e, sBrk_e, sCnt_e, sRaise_e, sFor_e, onR_ok, onR_exc, onO_some, run_n, run_t, runs_nil, runs_cons, Option.bind_some, dV_0, dV_1, dV_2, dV_3, dV_4, dV_5, dV_6, dV_7, dV_8, dV_9, dV_10, dV_11, dV_12, dV_13, dV_14, dV_15, dV_16, dC_e, dBin_e, dUn_e, dAnd_e, dOr_e, dNot_e, tVal_e, tAnd_e, tOr_e, tNot_e, dIf_e, dCall_e, aNil_e, aCons_e, dTup_e, Res.bind_ok, Res.bind_exc, asB_b, oAdd_i, oSub_i, oLt_i, oLe_i, oGt_i, oGe_i, oNeg_i, oEq_d, oNe_d, oEq_s, oNe_s, oAddI_i, bLen_fl, bLen_tup, bMax2_i, bMin2_i, List.length_cons, List.length_nil, List.length_map, Nat.zero_add, Nat.reduceAdd, Nat.reduceLT, big_lit0, big_lit1, big_lit2, big_lit3, big_lit4, if_true, if_false, List.set_cons_zero, List.set_cons_succ, decide_true, decide_false, Bool.not_true, Bool.not_false, Bool.false_eq_true, Bool.true_eq_false, decide_eq_true_eq, endF_ret, endF_nx, endF_exc, pAt_int, pNo_e, dSl_e, newL_e, cast0, cast1, cast2, cast3, cast4, cast5, cell_1, p9, m9, ← hBe])]
  obtain ⟨t0, l0, o0, e0⟩ := tree2_e ((ns.take 21).drop 3) (by rw [List.length_drop, List.length_take]; omega) s hs2 []
  have sl := sl_lohi (d := dV 0) (ρ := [some (.fl (ns.map W.int)), some (.int s), some (.int B), none, none, none, none, none, none, none, none, none, none, none, none, none]) (h := []) (ws := ns.map W.int) 3 21 rfl (by rw [← List.map_take, ← List.map_drop]; exact ints_pure _) (pAt (dC (.int 3))) (pAt (dC (.int 21))) rfl rfl
  rw [← List.map_take, ← List.map_drop] at sl
  rw [seq_nx (ρ1 := [some (.fl (ns.map W.int)), some (.int s), some (.int B), some (trW t0), none, none, none, none, none, none, none, none, none, none, none, none]) (h1 := []) (by
    rw [sAsg_e, dCall_e, aCons_e, sl, Res.bind_ok]; simp only [sSeq_t, then_nx, then_ret, then_bk, then_ct, then_exc, sAsg_e, sIf_e, sRet_e, sRetN_e, sExp_e, sNx_e, sBrk_e, sCnt_e, sRaise_e, sFor_e, onR_ok, onR_exc, onO_some, run_n, run_t, runs_nil, runs_cons, Option.bind_some, dV_0, dV_1, dV_2, dV_3, dV_4, dV_5, dV_6, dV_7, dV_8, dV_9, dV_10, dV_11, dV_12, dV_13, dV_14, dV_15, dV_16, dC_e, dBin_e, dUn_e, dAnd_e, dOr_e, dNot_e, tVal_e, tAnd_e, tOr_e, tNot_e, dIf_e, dCall_e, aNil_e, aCons_e, dTup_e, Res.bind_ok, Res.bind_exc, asB_b, oAdd_i, oSub_i, oLt_i, oLe_i, oGt_i, oGe_i, oNeg_i, oEq_d, oNe_d, oEq_s, oNe_s, oAddI_i, bLen_fl, bLen_tup, bMax2_i, bMin2_i, List.length_cons, List.length_nil, List.length_map, Nat.zero_add, Nat.reduceAdd, Nat.reduceLT, big_lit0, big_lit1, big_lit2, big_lit3, big_lit4, if_true, if_false, List.set_cons_zero, List.set_cons_succ, decide_true, decide_false, Bool.not_true, Bool.not_false, Bool.false_eq_true, Bool.true_eq_false, decide_eq_true_eq, endF_ret, endF_nx, endF_exc, pAt_int, pNo_e, dSl_e, newL_e, cast0, cast1, cast2, cast3, cast4, cast5, e0])]
  have cst : ∀ (t : Tr) (k : Int), 0 ≤ k → k ≤ 80 → t.leaves ≤ 20 → TOk (k * s) t → t.costs (2 ^ 90) := fun t k k0 k1 h1 h2 => t.costs_le (by
    have a1 := Int.mul_le_mul_of_nonneg_right (a := k) (b := 80) (c := s) k1 (by omega)
    have a0 := Int.mul_nonneg k0 (show 0 ≤ s by omega)
    have a2 := Int.mul_le_mul_of_nonneg_right (a := 2 * (t.leaves : Int) - 1) (b := 100) (c := k * s) (by omega) a0
    omega) h2.c
  obtain ⟨t, h1, e4, hl1, tc, hh, eT⟩ : ∃ (t : Tr) (h1 : Hs) (e4 : Option W), t.leaves ≤ 20 ∧ t.costs (2 ^ 90) ∧ t.high < 50 ∧ sIf (tVal (dBin oEq (dBin oMod (dBin oDiv (dCall f__law_cell (aCons (dV 0) (aCons (dC (.int 0)) (aNil)))) (dC (.int 3))) (dC (.int 2))) (dC (.int 0)))) (sSeq (sAsg (dCall f__law_cell (aCons (dV 0) (aCons (dC (.int 3)) (aNil)))) (.n 4)) (sAsg (dCall (f__law_grown 64) (aCons (dLst (aCons (dBin oIx (dGz (dLst (aCons (dBin oMod (dBin oDiv (dV 4) (dC (.int 2))) (dC (.int 2147483647))) (aCons (dBin oDiv (dV 4) (dC (.int 2))) (aNil))))) (dBin oMod (dV 4) (dC (.int 2)))) (aCons (dBin oMod (dV 4) (dC (.int 2))) (aNil)))) (aCons (dLst (aCons (dC (.int 15)) (aNil))) (aCons (dV 1) (aNil))))) (.n 3))) (sNx) [some (.fl (ns.map W.int)), some (.int s), some (.int B), some (trW t0), none, none, none, none, none, none, none, none, none, none, none, none] [] = .nx [some (.fl (ns.map W.int)), some (.int s), some (.int B), some (trW t), e4, none, none, none, none, none, none, none, none, none, none, none] h1 := by
    have d3 : ∀ (c : Int) h, oDiv (.int c) (.int 3) h = .ok (.int (c / 3)) h := fun c h => oDivS (by omega) (by omega)
    have d2 : ∀ (c : Int) h, oDiv (.int c) (.int 2) h = .ok (.int (c / 2)) h := fun c h => oDivS (by omega) (by omega)
    have m2 : ∀ (c : Int) h, oMod (.int c) (.int 2) h = .ok (.int (c % 2)) h := fun c h => oModP (by omega)
    have mp : ∀ (c : Int) h, oMod (.int c) (.int 2147483647) h = .ok (.int (c % 2147483647)) h := fun c h => oModP (by omega)
    by_cases k : ns[0]?.getD 0 / 3 % 2 = 0
    · obtain ⟨y, hy⟩ : ∃ y, y = ns[3]?.getD 0 := ⟨_, rfl⟩
      obtain ⟨x, ex⟩ : ∃ x : Int, ∀ ρ h, dV 4 ρ h = .ok (.int y) h → dBin oIx (dGz (dLst (aCons (dBin oMod (dBin oDiv (dV 4) (dC (.int 2))) (dC (.int 2147483647))) (aCons (dBin oDiv (dV 4) (dC (.int 2))) (aNil))))) (dBin oMod (dV 4) (dC (.int 2))) ρ h = .ok (.int x) h := by
        have lz : ∀ ρ h, dV 4 ρ h = .ok (.int y) h → dGz (dLst (aCons (dBin oMod (dBin oDiv (dV 4) (dC (.int 2))) (dC (.int 2147483647))) (aCons (dBin oDiv (dV 4) (dC (.int 2))) (aNil)))) ρ h = .ok (.fl [.int (y / 2 % 2147483647), .int (y / 2)]) h := fun ρ h e => lst_gz (by
          simp only [aCons_e, aNil_e, dBin_e, e, dC_e, Res.bind_ok, d2, mp]) (by simp) rfl
        obtain ⟨k, hk, hk2⟩ := mod_nat y 2 (by omega)
        have : k = 0 ∨ k = 1 := by omega
        rcases this with rfl | rfl
        · exact ⟨_, fun ρ h e => by rw [dBin_e, lz ρ h e, Res.bind_ok, dBin_e, e]; simp only [dC_e, Res.bind_ok, m2, ← hk]; exact oIx_f0⟩
        · exact ⟨_, fun ρ h e => by rw [dBin_e, lz ρ h e, Res.bind_ok, dBin_e, e]; simp only [dC_e, Res.bind_ok, m2, ← hk]; exact oIx_f1⟩
      obtain ⟨t, z, q, q1, q2, q3, q4⟩ := grown_e s (y % 2) hs2 0 1 (by omega) 64 15 x [.lst [.int x, .int (y % 2)], .lst [.int 15]] (by omega) (by omega) rfl rfl
      refine ⟨t, two [.lst [.int x, .int (y % 2)], .lst [.int 15]] 0 1 z (y % 2) q, some (.int y), by omega, cst t 80 (by omega) (by omega) (by omega) q3, by have := q3.h; omega, ?_⟩
      rw [sIf_e]
      have tt : tVal (dBin oEq (dBin oMod (dBin oDiv (dCall f__law_cell (aCons (dV 0) (aCons (dC (.int 0)) (aNil)))) (dC (.int 3))) (dC (.int 2))) (dC (.int 0))) [some (.fl (ns.map W.int)), some (.int s), some (.int B), some (trW t0), none, none, none, none, none, none, none, none, none, none, none, none] [] = .ok true [] := by
        simp only [sSeq_t, then_nx, then_ret, then_bk, then_ct, then_exc, sAsg_e, sIf_e, sRet_e, sRetN_e, sExp_e, sNx_e, sBrk_e, sCnt_e, sRaise_e, sFor_e, onR_ok, onR_exc, onO_some, run_n, run_t, runs_nil, runs_cons, Option.bind_some, dV_0, dV_1, dV_2, dV_3, dV_4, dV_5, dV_6, dV_7, dV_8, dV_9, dV_10, dV_11, dV_12, dV_13, dV_14, dV_15, dV_16, dC_e, dBin_e, dUn_e, dAnd_e, dOr_e, dNot_e, tVal_e, tAnd_e, tOr_e, tNot_e, dIf_e, dCall_e, aNil_e, aCons_e, dTup_e, Res.bind_ok, Res.bind_exc, asB_b, oAdd_i, oSub_i, oLt_i, oLe_i, oGt_i, oGe_i, oNeg_i, oEq_d, oNe_d, oEq_s, oNe_s, oAddI_i, bLen_fl, bLen_tup, bMax2_i, bMin2_i, List.length_cons, List.length_nil, List.length_map, Nat.zero_add, Nat.reduceAdd, Nat.reduceLT, big_lit0, big_lit1, big_lit2, big_lit3, big_lit4, if_true, if_false, List.set_cons_zero, List.set_cons_succ, decide_true, decide_false, Bool.not_true, Bool.not_false, Bool.false_eq_true, Bool.true_eq_false, decide_eq_true_eq, endF_ret, endF_nx, endF_exc, pAt_int, pNo_e, dSl_e, newL_e, cast0, cast1, cast2, cast3, cast4, cast5, cell_0, d3, m2, k]
      rw [tt, onR_ok, if_pos rfl]
      rw [seq_nx (ρ1 := [some (.fl (ns.map W.int)), some (.int s), some (.int B), some (trW t0), some (.int y), none, none, none, none, none, none, none, none, none, none, none]) (h1 := []) (by simp only [sSeq_t, then_nx, then_ret, then_bk, then_ct, then_exc, sAsg_e, sIf_e, sRet_e, sRetN_e, sExp_e, sNx_e, sBrk_e, sCnt_e, sRaise_e, sFor_e, onR_ok, onR_exc, onO_some, run_n, run_t, runs_nil, runs_cons, Option.bind_some, dV_0, dV_1, dV_2, dV_3, dV_4, dV_5, dV_6, dV_7, dV_8, dV_9, dV_10, dV_11, dV_12, dV_13, dV_14, dV_15, dV_16, dC_e, dBin_e, dUn_e, dAnd_e, dOr_e, dNot_e, tVal_e, tAnd_e, tOr_e, tNot_e, dIf_e, dCall_e, aNil_e, aCons_e, dTup_e, Res.bind_ok, Res.bind_exc, asB_b, oAdd_i, oSub_i, oLt_i, oLe_i, oGt_i, oGe_i, oNeg_i, oEq_d, oNe_d, oEq_s, oNe_s, oAddI_i, bLen_fl, bLen_tup, bMax2_i, bMin2_i, List.length_cons, List.length_nil, List.length_map, Nat.zero_add, Nat.reduceAdd, Nat.reduceLT, big_lit0, big_lit1, big_lit2, big_lit3, big_lit4, if_true, if_false, List.set_cons_zero, List.set_cons_succ, decide_true, decide_false, Bool.not_true, Bool.not_false, Bool.false_eq_true, Bool.true_eq_false, decide_eq_true_eq, endF_ret, endF_nx, endF_exc, pAt_int, pNo_e, dSl_e, newL_e, cast0, cast1, cast2, cast3, cast4, cast5, cell_3, ← hy])]
      have e1 := ex [some (.fl (ns.map W.int)), some (.int s), some (.int B), some (trW t0), some (.int y), none, none, none, none, none, none, none, none, none, none, none] [] rfl
      have e2 : dLst (aCons (dBin oIx (dGz (dLst (aCons (dBin oMod (dBin oDiv (dV 4) (dC (.int 2))) (dC (.int 2147483647))) (aCons (dBin oDiv (dV 4) (dC (.int 2))) (aNil))))) (dBin oMod (dV 4) (dC (.int 2)))) (aCons (dBin oMod (dV 4) (dC (.int 2))) (aNil))) [some (.fl (ns.map W.int)), some (.int s), some (.int B), some (trW t0), some (.int y), none, none, none, none, none, none, none, none, none, none, none] [] = .ok (.ref 0) [.lst [.int x, .int (y % 2)]] := by
        rw [dLst_e, aCons_e, e1]
        simp only [sSeq_t, then_nx, then_ret, then_bk, then_ct, then_exc, sAsg_e, sIf_e, sRet_e, sRetN_e, sExp_e, sNx_e, sBrk_e, sCnt_e, sRaise_e, sFor_e, onR_ok, onR_exc, onO_some, run_n, run_t, runs_nil, runs_cons, Option.bind_some, dV_0, dV_1, dV_2, dV_3, dV_4, dV_5, dV_6, dV_7, dV_8, dV_9, dV_10, dV_11, dV_12, dV_13, dV_14, dV_15, dV_16, dC_e, dBin_e, dUn_e, dAnd_e, dOr_e, dNot_e, tVal_e, tAnd_e, tOr_e, tNot_e, dIf_e, dCall_e, aNil_e, aCons_e, dTup_e, Res.bind_ok, Res.bind_exc, asB_b, oAdd_i, oSub_i, oLt_i, oLe_i, oGt_i, oGe_i, oNeg_i, oEq_d, oNe_d, oEq_s, oNe_s, oAddI_i, bLen_fl, bLen_tup, bMax2_i, bMin2_i, List.length_cons, List.length_nil, List.length_map, Nat.zero_add, Nat.reduceAdd, Nat.reduceLT, big_lit0, big_lit1, big_lit2, big_lit3, big_lit4, if_true, if_false, List.set_cons_zero, List.set_cons_succ, decide_true, decide_false, Bool.not_true, Bool.not_false, Bool.false_eq_true, Bool.true_eq_false, decide_eq_true_eq, endF_ret, endF_nx, endF_exc, pAt_int, pNo_e, dSl_e, newL_e, cast0, cast1, cast2, cast3, cast4, cast5, m2]
        rfl
      rw [sAsg_e, dCall_e, aCons_e, e2, Res.bind_ok]
      simp only [sSeq_t, then_nx, then_ret, then_bk, then_ct, then_exc, sAsg_e, sIf_e, sRet_e, sRetN_e, sExp_e, sNx_e, sBrk_e, sCnt_e, sRaise_e, sFor_e, onR_ok, onR_exc, onO_some, run_n, run_t, runs_nil, runs_cons, Option.bind_some, dV_0, dV_1, dV_2, dV_3, dV_4, dV_5, dV_6, dV_7, dV_8, dV_9, dV_10, dV_11, dV_12, dV_13, dV_14, dV_15, dV_16, dC_e, dBin_e, dUn_e, dAnd_e, dOr_e, dNot_e, tVal_e, tAnd_e, tOr_e, tNot_e, dIf_e, dCall_e, aNil_e, aCons_e, dTup_e, Res.bind_ok, Res.bind_exc, asB_b, oAdd_i, oSub_i, oLt_i, oLe_i, oGt_i, oGe_i, oNeg_i, oEq_d, oNe_d, oEq_s, oNe_s, oAddI_i, bLen_fl, bLen_tup, bMax2_i, bMin2_i, List.length_cons, List.length_nil, List.length_map, Nat.zero_add, Nat.reduceAdd, Nat.reduceLT, big_lit0, big_lit1, big_lit2, big_lit3, big_lit4, if_true, if_false, List.set_cons_zero, List.set_cons_succ, decide_true, decide_false, Bool.not_true, Bool.not_false, Bool.false_eq_true, Bool.true_eq_false, decide_eq_true_eq, endF_ret, endF_nx, endF_exc, pAt_int, pNo_e, dSl_e, newL_e, cast0, cast1, cast2, cast3, cast4, cast5, dLst_e, List.cons_append, List.nil_append]
      have q4 : f__law_grown 64 [.ref 0, .ref 1, .int s] [.lst [.int x, .int (y % 2)], .lst [.int 15]] = _ := q4
      simp only [sSeq_t, then_nx, then_ret, then_bk, then_ct, then_exc, sAsg_e, sIf_e, sRet_e, sRetN_e, sExp_e, sNx_e, sBrk_e, sCnt_e, sRaise_e, sFor_e, onR_ok, onR_exc, onO_some, run_n, run_t, runs_nil, runs_cons, Option.bind_some, dV_0, dV_1, dV_2, dV_3, dV_4, dV_5, dV_6, dV_7, dV_8, dV_9, dV_10, dV_11, dV_12, dV_13, dV_14, dV_15, dV_16, dC_e, dBin_e, dUn_e, dAnd_e, dOr_e, dNot_e, tVal_e, tAnd_e, tOr_e, tNot_e, dIf_e, dCall_e, aNil_e, aCons_e, dTup_e, Res.bind_ok, Res.bind_exc, asB_b, oAdd_i, oSub_i, oLt_i, oLe_i, oGt_i, oGe_i, oNeg_i, oEq_d, oNe_d, oEq_s, oNe_s, oAddI_i, bLen_fl, bLen_tup, bMax2_i, bMin2_i, List.length_cons, List.length_nil, List.length_map, Nat.zero_add, Nat.reduceAdd, Nat.reduceLT, big_lit0, big_lit1, big_lit2, big_lit3, big_lit4, if_true, if_false, List.set_cons_zero, List.set_cons_succ, decide_true, decide_false, Bool.not_true, Bool.not_false, Bool.false_eq_true, Bool.true_eq_false, decide_eq_true_eq, endF_ret, endF_nx, endF_exc, pAt_int, pNo_e, dSl_e, newL_e, cast0, cast1, cast2, cast3, cast4, cast5, q4]
    · refine ⟨t0, [], none, l0, cst t0 50 (by omega) (by omega) l0 o0, by have := o0.h; omega, ?_⟩
      simp only [sSeq_t, then_nx, then_ret, then_bk, then_ct, then_exc, sAsg_e, sIf_e, sRet_e, sRetN_e, sExp_e, sNx_e, sBrk_e, sCnt_e, sRaise_e, sFor_e, onR_ok, onR_exc, onO_some, run_n, run_t, runs_nil, runs_cons, Option.bind_some, dV_0, dV_1, dV_2, dV_3, dV_4, dV_5, dV_6, dV_7, dV_8, dV_9, dV_10, dV_11, dV_12, dV_13, dV_14, dV_15, dV_16, dC_e, dBin_e, dUn_e, dAnd_e, dOr_e, dNot_e, tVal_e, tAnd_e, tOr_e, tNot_e, dIf_e, dCall_e, aNil_e, aCons_e, dTup_e, Res.bind_ok, Res.bind_exc, asB_b, oAdd_i, oSub_i, oLt_i, oLe_i, oGt_i, oGe_i, oNeg_i, oEq_d, oNe_d, oEq_s, oNe_s, oAddI_i, bLen_fl, bLen_tup, bMax2_i, bMin2_i, List.length_cons, List.length_nil, List.length_map, Nat.zero_add, Nat.reduceAdd, Nat.reduceLT, big_lit0, big_lit1, big_lit2, big_lit3, big_lit4, if_true, if_false, List.set_cons_zero, List.set_cons_succ, decide_true, decide_false, Bool.not_true, Bool.not_false, Bool.false_eq_true, Bool.true_eq_false, decide_eq_true_eq, endF_ret, endF_nx, endF_exc, pAt_int, pNo_e, dSl_e, newL_e, cast0, cast1, cast2, cast3, cast4, cast5, cell_0, d3, m2, k]
  rw [seq_nx eT]
  have tc2 : t.costs (2 ^ 105) := t.costs_le (by omega) tc
  have lo : ∀ (c : Int) h, f__law_ratio [.int c, .int B] h = .ok (rat (Rat.divInt c B)) h := fun c h => lrat_q c B h hB.1 (Nat.lt_of_lt_of_le (by omega : B.natAbs < 2 ^ 100) (Nat.pow_le_pow_right (by omega) (by omega)))
  have ha := handed_e (fun c => rat (Rat.divInt c B)) B lo (fun _ => rfl) t 64 h1 (by omega) (by omega)
  obtain ⟨R, rR, el⟩ := ladder_e hB2 t hh (by omega) tc2
  have Rl := rR.len
  obtain ⟨e2, us, d, el1, ld, ed, lv⟩ := el h1
  have gz := ladder_gz (t := t) ld ed lv
  obtain ⟨K, g, r⟩ := last_is hB.1 t
  have pa := path_e B hB2 t (by omega) (by omega) tc2 g r h1
  have few := g.few hB.1
  rw [seq_nx (ρ1 := [some (.fl (ns.map W.int)), some (.int s), some (.int B), some (trW t), e4, some (trF (fun c => rat (Rat.divInt c B)) t), none, none, none, none, none, none, none, none, none, none]) (h1 := h1) (by
    simp only [sSeq_t, then_nx, then_ret, then_bk, then_ct, then_exc, sAsg_e, sIf_e, sRet_e, sRetN_e, sExp_e, sNx_e, sBrk_e, sCnt_e, sRaise_e, sFor_e, onR_ok, onR_exc, onO_some, run_n, run_t, runs_nil, runs_cons, Option.bind_some, dV_0, dV_1, dV_2, dV_3, dV_4, dV_5, dV_6, dV_7, dV_8, dV_9, dV_10, dV_11, dV_12, dV_13, dV_14, dV_15, dV_16, dC_e, dBin_e, dUn_e, dAnd_e, dOr_e, dNot_e, tVal_e, tAnd_e, tOr_e, tNot_e, dIf_e, dCall_e, aNil_e, aCons_e, dTup_e, Res.bind_ok, Res.bind_exc, asB_b, oAdd_i, oSub_i, oLt_i, oLe_i, oGt_i, oGe_i, oNeg_i, oEq_d, oNe_d, oEq_s, oNe_s, oAddI_i, bLen_fl, bLen_tup, bMax2_i, bMin2_i, List.length_cons, List.length_nil, List.length_map, Nat.zero_add, Nat.reduceAdd, Nat.reduceLT, big_lit0, big_lit1, big_lit2, big_lit3, big_lit4, if_true, if_false, List.set_cons_zero, List.set_cons_succ, decide_true, decide_false, Bool.not_true, Bool.not_false, Bool.false_eq_true, Bool.true_eq_false, decide_eq_true_eq, endF_ret, endF_nx, endF_exc, pAt_int, pNo_e, dSl_e, newL_e, cast0, cast1, cast2, cast3, cast4, cast5, ha])]
  rw [seq_nx (ρ1 := [some (.fl (ns.map W.int)), some (.int s), some (.int B), some (trW t), e4, some (trF (fun c => rat (Rat.divInt c B)) t), some (.fl (R.zipIdx.map (rdW B))), none, none, none, none, none, none, none, none, none]) (h1 := h1) (by
    rw [sAsg_e, dGz_e]; simp only [sSeq_t, then_nx, then_ret, then_bk, then_ct, then_exc, sAsg_e, sIf_e, sRet_e, sRetN_e, sExp_e, sNx_e, sBrk_e, sCnt_e, sRaise_e, sFor_e, onR_ok, onR_exc, onO_some, run_n, run_t, runs_nil, runs_cons, Option.bind_some, dV_0, dV_1, dV_2, dV_3, dV_4, dV_5, dV_6, dV_7, dV_8, dV_9, dV_10, dV_11, dV_12, dV_13, dV_14, dV_15, dV_16, dC_e, dBin_e, dUn_e, dAnd_e, dOr_e, dNot_e, tVal_e, tAnd_e, tOr_e, tNot_e, dIf_e, dCall_e, aNil_e, aCons_e, dTup_e, Res.bind_ok, Res.bind_exc, asB_b, oAdd_i, oSub_i, oLt_i, oLe_i, oGt_i, oGe_i, oNeg_i, oEq_d, oNe_d, oEq_s, oNe_s, oAddI_i, bLen_fl, bLen_tup, bMax2_i, bMin2_i, List.length_cons, List.length_nil, List.length_map, Nat.zero_add, Nat.reduceAdd, Nat.reduceLT, big_lit0, big_lit1, big_lit2, big_lit3, big_lit4, if_true, if_false, List.set_cons_zero, List.set_cons_succ, decide_true, decide_false, Bool.not_true, Bool.not_false, Bool.false_eq_true, Bool.true_eq_false, decide_eq_true_eq, endF_ret, endF_nx, endF_exc, pAt_int, pNo_e, dSl_e, newL_e, cast0, cast1, cast2, cast3, cast4, cast5, el1, gz])]
  rw [seq_nx (ρ1 := [some (.fl (ns.map W.int)), some (.int s), some (.int B), some (trW t), e4, some (trF (fun c => rat (Rat.divInt c B)) t), some (.fl (R.zipIdx.map (rdW B))), some (.fl (stepsW B t K)), none, none, none, none, none, none, none, none]) (h1 := h1) (by
    simp only [sSeq_t, then_nx, then_ret, then_bk, then_ct, then_exc, sAsg_e, sIf_e, sRet_e, sRetN_e, sExp_e, sNx_e, sBrk_e, sCnt_e, sRaise_e, sFor_e, onR_ok, onR_exc, onO_some, run_n, run_t, runs_nil, runs_cons, Option.bind_some, dV_0, dV_1, dV_2, dV_3, dV_4, dV_5, dV_6, dV_7, dV_8, dV_9, dV_10, dV_11, dV_12, dV_13, dV_14, dV_15, dV_16, dC_e, dBin_e, dUn_e, dAnd_e, dOr_e, dNot_e, tVal_e, tAnd_e, tOr_e, tNot_e, dIf_e, dCall_e, aNil_e, aCons_e, dTup_e, Res.bind_ok, Res.bind_exc, asB_b, oAdd_i, oSub_i, oLt_i, oLe_i, oGt_i, oGe_i, oNeg_i, oEq_d, oNe_d, oEq_s, oNe_s, oAddI_i, bLen_fl, bLen_tup, bMax2_i, bMin2_i, List.length_cons, List.length_nil, List.length_map, Nat.zero_add, Nat.reduceAdd, Nat.reduceLT, big_lit0, big_lit1, big_lit2, big_lit3, big_lit4, if_true, if_false, List.set_cons_zero, List.set_cons_succ, decide_true, decide_false, Bool.not_true, Bool.not_false, Bool.false_eq_true, Bool.true_eq_false, decide_eq_true_eq, endF_ret, endF_nx, endF_exc, pAt_int, pNo_e, dSl_e, newL_e, cast0, cast1, cast2, cast3, cast4, cast5, pa])]
  -- the corners
  obtain ⟨P, hP⟩ : ∃ P, P = R.zipIdx.map (rgP B) := ⟨_, rfl⟩
  have okP : ∀ q, q ∈ P → PtOk q := fun q hq => by
    rw [hP] at hq
    obtain ⟨k, x, hx, rfl⟩ := pts_get hq
    have z := cw_sz (rR.at_ k x hx).1 tc (by omega)
    have hk := (List.getElem?_eq_some_iff.mp hx).1
    exact ⟨by show ((k : Int) + 1).natAbs < 2 ^ 80; omega, rb_of hB.1 (by omega) (by show x.1.natAbs < 2 ^ 100; omega)⟩
  have cm : dGz (dComp (iAny (dV 6)) (.n 13) PF.tYes (dTup (aCons (dBin oIx (dV 13) (dC (.int 0))) (aCons (dBin oIx (dV 13) (dC (.int 1))) (aNil)))) [13]) [some (.fl (ns.map W.int)), some (.int s), some (.int B), some (trW t), e4, some (trF (fun c => rat (Rat.divInt c B)) t), some (.fl (R.zipIdx.map (rdW B))), some (.fl (stepsW B t K)), none, none, none, none, none, none, none, none] h1 = .ok (.fl (P.map ptW)) h1 := by
    have := comp_gm (it := iAny (dV 6)) (tg := .n 13) (e := dTup (aCons (dBin oIx (dV 13) (dC (.int 0))) (aCons (dBin oIx (dV 13) (dC (.int 1))) (aNil)))) (own := [13]) (ρ := [some (.fl (ns.map W.int)), some (.int s), some (.int B), some (trW t), e4, some (trF (fun c => rat (Rat.divInt c B)) t), some (.fl (R.zipIdx.map (rdW B))), some (.fl (stepsW B t K)), none, none, none, none, none, none, none, none]) (h := h1) (rdW B) (fun x => ptW (rgP B x)) R.zipIdx (iAny_fl rfl) (fun acc => stays_fl) (by rw [List.length_zipIdx]; unfold bigL; omega) (fun _ _ => rfl) (fun x _ => by
      refine ⟨[some (.fl (ns.map W.int)), some (.int s), some (.int B), some (trW t), e4, some (trF (fun c => rat (Rat.divInt c B)) t), some (.fl (R.zipIdx.map (rdW B))), some (.fl (stepsW B t K)), none, none, none, none, none, some (rdW B x), none, none], rfl, fun acc => ?_⟩
      have i0 : ∀ h, oIx (rdW B x) (.int 0) h = .ok (.int ((x.2 : Int) + 1)) h := fun h => oIx_t0
      have i1 : ∀ h, oIx (rdW B x) (.int 1) h = .ok (rat (Rat.divInt x.1.1 B)) h := fun h => oIx_t1
      generalize rdW B x = DW at *
      simp only [sSeq_t, then_nx, then_ret, then_bk, then_ct, then_exc, sAsg_e, sIf_e, sRet_e, sRetN_e, sExp_e, sNx_e, sBrk_e, sCnt_e, sRaise_e, sFor_e, onR_ok, onR_exc, onO_some, run_n, run_t, runs_nil, runs_cons, Option.bind_some, dV_0, dV_1, dV_2, dV_3, dV_4, dV_5, dV_6, dV_7, dV_8, dV_9, dV_10, dV_11, dV_12, dV_13, dV_14, dV_15, dV_16, dC_e, dBin_e, dUn_e, dAnd_e, dOr_e, dNot_e, tVal_e, tAnd_e, tOr_e, tNot_e, dIf_e, dCall_e, aNil_e, aCons_e, dTup_e, Res.bind_ok, Res.bind_exc, asB_b, oAdd_i, oSub_i, oLt_i, oLe_i, oGt_i, oGe_i, oNeg_i, oEq_d, oNe_d, oEq_s, oNe_s, oAddI_i, bLen_fl, bLen_tup, bMax2_i, bMin2_i, List.length_cons, List.length_nil, List.length_map, Nat.zero_add, Nat.reduceAdd, Nat.reduceLT, big_lit0, big_lit1, big_lit2, big_lit3, big_lit4, if_true, if_false, List.set_cons_zero, List.set_cons_succ, decide_true, decide_false, Bool.not_true, Bool.not_false, Bool.false_eq_true, Bool.true_eq_false, decide_eq_true_eq, endF_ret, endF_nx, endF_exc, pAt_int, pNo_e, dSl_e, newL_e, cast0, cast1, cast2, cast3, cast4, cast5, i0, i1]
      rfl)
    rw [this, hP, List.map_map]
    rfl
  have lpos := t.leaves_pos
  obtain ⟨p0, S, hPS⟩ : ∃ p0 S, P = p0 :: S := by
    cases e : P with
    | nil =>
      have := congrArg List.length (hP.symm.trans e)
      simp at this
      rw [this] at Rl
      simp at Rl
      omega
    | cons a b => exact ⟨a, b, rfl⟩
  have lS : S.length < 400 := by
    have := congrArg List.length (hP.symm.trans hPS)
    simp at this
    omega
  obtain ⟨cs, hcs⟩ := corners_ex p0 S
  have hcs2 : Corners (R.zipIdx.map (rgP B)) cs := by rw [← hP, hPS]; exact hcs
  have ecs := corners_path hB.1 rR g r hcs2
  have cb := corners_body p0 S lS (by rw [← hPS]; exact okP) hcs h1
  rw [← hPS, ecs] at cb
  have co : f_corners [.fl (P.map ptW)] h1 = .ok (.fl ((pathC B t K).map crW)) h1 := by
    rw [f_corners_e, cb, endF_ret]
    exact gc_lst (Nat.le_refl _) (by simp) (crs_pure _)
  rw [seq_nx (ρ1 := [some (.fl (ns.map W.int)), some (.int s), some (.int B), some (trW t), e4, some (trF (fun c => rat (Rat.divInt c B)) t), some (.fl (R.zipIdx.map (rdW B))), some (.fl (stepsW B t K)), some (.fl ((pathC B t K).map crW)), none, none, none, none, none, none, none]) (h1 := h1) (by
    rw [sAsg_e, dCall_e, aCons_e, cm, Res.bind_ok]; simp only [sSeq_t, then_nx, then_ret, then_bk, then_ct, then_exc, sAsg_e, sIf_e, sRet_e, sRetN_e, sExp_e, sNx_e, sBrk_e, sCnt_e, sRaise_e, sFor_e, onR_ok, onR_exc, onO_some, run_n, run_t, runs_nil, runs_cons, Option.bind_some, dV_0, dV_1, dV_2, dV_3, dV_4, dV_5, dV_6, dV_7, dV_8, dV_9, dV_10, dV_11, dV_12, dV_13, dV_14, dV_15, dV_16, dC_e, dBin_e, dUn_e, dAnd_e, dOr_e, dNot_e, tVal_e, tAnd_e, tOr_e, tNot_e, dIf_e, dCall_e, aNil_e, aCons_e, dTup_e, Res.bind_ok, Res.bind_exc, asB_b, oAdd_i, oSub_i, oLt_i, oLe_i, oGt_i, oGe_i, oNeg_i, oEq_d, oNe_d, oEq_s, oNe_s, oAddI_i, bLen_fl, bLen_tup, bMax2_i, bMin2_i, List.length_cons, List.length_nil, List.length_map, Nat.zero_add, Nat.reduceAdd, Nat.reduceLT, big_lit0, big_lit1, big_lit2, big_lit3, big_lit4, if_true, if_false, List.set_cons_zero, List.set_cons_succ, decide_true, decide_false, Bool.not_true, Bool.not_false, Bool.false_eq_true, Bool.true_eq_false, decide_eq_true_eq, endF_ret, endF_nx, endF_exc, pAt_int, pNo_e, dSl_e, newL_e, cast0, cast1, cast2, cast3, cast4, cast5, co])]
  have cm2 : dGz (dComp (iAny (dV 7)) (.n 15) PF.tYes (dTup (aCons (dBin oIx (dV 15) (dC (.int 0))) (aCons (dCall bLen (aCons (dBin oIx (dV 15) (dC (.int 1))) (aNil))) (aNil)))) [15]) [some (.fl (ns.map W.int)), some (.int s), some (.int B), some (trW t), e4, some (trF (fun c => rat (Rat.divInt c B)) t), some (.fl (R.zipIdx.map (rdW B))), some (.fl (stepsW B t K)), some (.fl ((pathC B t K).map crW)), none, none, none, none, none, none, none] h1 = .ok (.fl ((pathC B t K).map crW)) h1 := by
    have := comp_gm (it := iAny (dV 7)) (tg := .n 15) (e := dTup (aCons (dBin oIx (dV 15) (dC (.int 0))) (aCons (dCall bLen (aCons (dBin oIx (dV 15) (dC (.int 1))) (aNil))) (aNil)))) (own := [15]) (ρ := [some (.fl (ns.map W.int)), some (.int s), some (.int B), some (trW t), e4, some (trF (fun c => rat (Rat.divInt c B)) t), some (.fl (R.zipIdx.map (rdW B))), some (.fl (stepsW B t K)), some (.fl ((pathC B t K).map crW)), none, none, none, none, none, none, none]) (h := h1) (fun i => stepW B t (yk B t i)) (fun i => crW (yk B t i, (bn B (yk B t i) t : Int))) (List.range (K + 1)) (iAny_fl rfl) (fun acc => stays_fl) (by rw [List.length_range]; unfold bigL; omega) (fun _ _ => rfl) (fun i _ => by
      refine ⟨[some (.fl (ns.map W.int)), some (.int s), some (.int B), some (trW t), e4, some (trF (fun c => rat (Rat.divInt c B)) t), some (.fl (R.zipIdx.map (rdW B))), some (.fl (stepsW B t K)), some (.fl ((pathC B t K).map crW)), none, none, none, none, none, none, some (stepW B t (yk B t i))], rfl, fun acc => ?_⟩
      have i0 : ∀ h, oIx (stepW B t (yk B t i)) (.int 0) h = .ok (rat (yk B t i)) h := fun h => oIx_t0
      have i1 : ∀ h, oIx (stepW B t (yk B t i)) (.int 1) h = .ok (.fl ((bst B (yk B t i) t []).2.map W.str)) h := fun h => oIx_t1
      have bl : ((bst B (yk B t i) t []).2.map W.str).length = bn B (yk B t i) t := List.length_map _
      generalize stepW B t (yk B t i) = DW at *
      generalize (bst B (yk B t i) t []).2.map W.str = XW at *
      simp only [sSeq_t, then_nx, then_ret, then_bk, then_ct, then_exc, sAsg_e, sIf_e, sRet_e, sRetN_e, sExp_e, sNx_e, sBrk_e, sCnt_e, sRaise_e, sFor_e, onR_ok, onR_exc, onO_some, run_n, run_t, runs_nil, runs_cons, Option.bind_some, dV_0, dV_1, dV_2, dV_3, dV_4, dV_5, dV_6, dV_7, dV_8, dV_9, dV_10, dV_11, dV_12, dV_13, dV_14, dV_15, dV_16, dC_e, dBin_e, dUn_e, dAnd_e, dOr_e, dNot_e, tVal_e, tAnd_e, tOr_e, tNot_e, dIf_e, dCall_e, aNil_e, aCons_e, dTup_e, Res.bind_ok, Res.bind_exc, asB_b, oAdd_i, oSub_i, oLt_i, oLe_i, oGt_i, oGe_i, oNeg_i, oEq_d, oNe_d, oEq_s, oNe_s, oAddI_i, bLen_fl, bLen_tup, bMax2_i, bMin2_i, List.length_cons, List.length_nil, List.length_map, Nat.zero_add, Nat.reduceAdd, Nat.reduceLT, big_lit0, big_lit1, big_lit2, big_lit3, big_lit4, if_true, if_false, List.set_cons_zero, List.set_cons_succ, decide_true, decide_false, Bool.not_true, Bool.not_false, Bool.false_eq_true, Bool.true_eq_false, decide_eq_true_eq, endF_ret, endF_nx, endF_exc, pAt_int, pNo_e, dSl_e, newL_e, cast0, cast1, cast2, cast3, cast4, cast5, i0, i1, bl]
      rfl)
    rw [this]
    unfold pathC
    rw [List.map_map]
    rfl
  have ne : oNe (.fl ((pathC B t K).map crW)) (.fl ((pathC B t K).map crW)) h1 = .ok (.bl false) h1 := by
    have p : W.pl 3 (.fl ((pathC B t K).map crW)) = true := by
      rw [pl_fl, List.all_map, List.all_eq_true]
      intro c _
      simp [crW]
    rw [oNe_pl (n := 3) (by decide) p p, decide_eq_true rfl]; rfl
  rw [seq_nx (ρ1 := [some (.fl (ns.map W.int)), some (.int s), some (.int B), some (trW t), e4, some (trF (fun c => rat (Rat.divInt c B)) t), some (.fl (R.zipIdx.map (rdW B))), some (.fl (stepsW B t K)), some (.fl ((pathC B t K).map crW)), none, none, none, none, none, none, none]) (h1 := h1) (by
    simp only [sIf_e, tVal_e, dBin_e, dV_8, Res.bind_ok, cm2, ne, asB_b, onR_ok, Bool.false_eq_true, if_false, sNx_e])]
  obtain ⟨c, hc⟩ : ∃ c, c = ns[2]?.getD 0 := ⟨_, rfl⟩
  have c2 : ∀ h, f__law_cell [.fl (ns.map W.int), .int 2] h = .ok (.int c) h := fun h => by rw [cell_2, hc]
  obtain ⟨w0, hw0⟩ : ∃ w0, w0 = some (W.fl (ns.map W.int)) := ⟨_, rfl⟩
  obtain ⟨w5, hw5⟩ : ∃ w5, w5 = some (trF (fun c => rat (Rat.divInt c B)) t) := ⟨_, rfl⟩
  obtain ⟨w8, hw8⟩ : ∃ w8, w8 = some (W.fl ((pathC B t K).map crW)) := ⟨_, rfl⟩
  rw [seq_nx (ρ1 := [w0, some (.int s), some (.int B), some (trW t), some (.int c), w5, some (.fl (R.zipIdx.map (rdW B))), some (.fl (stepsW B t K)), w8, none, none, none, none, none, none, none]) (h1 := h1) (by
    rw [hw0, hw5, hw8]; simp only [sSeq_t, then_nx, then_ret, then_bk, then_ct, then_exc, sAsg_e, sIf_e, sRet_e, sRetN_e, sExp_e, sNx_e, sBrk_e, sCnt_e, sRaise_e, sFor_e, onR_ok, onR_exc, onO_some, run_n, run_t, runs_nil, runs_cons, Option.bind_some, dV_0, dV_1, dV_2, dV_3, dV_4, dV_5, dV_6, dV_7, dV_8, dV_9, dV_10, dV_11, dV_12, dV_13, dV_14, dV_15, dV_16, dC_e, dBin_e, dUn_e, dAnd_e, dOr_e, dNot_e, tVal_e, tAnd_e, tOr_e, tNot_e, dIf_e, dCall_e, aNil_e, aCons_e, dTup_e, Res.bind_ok, Res.bind_exc, asB_b, oAdd_i, oSub_i, oLt_i, oLe_i, oGt_i, oGe_i, oNeg_i, oEq_d, oNe_d, oEq_s, oNe_s, oAddI_i, bLen_fl, bLen_tup, bMax2_i, bMin2_i, List.length_cons, List.length_nil, List.length_map, Nat.zero_add, Nat.reduceAdd, Nat.reduceLT, big_lit0, big_lit1, big_lit2, big_lit3, big_lit4, if_true, if_false, List.set_cons_zero, List.set_cons_succ, decide_true, decide_false, Bool.not_true, Bool.not_false, Bool.false_eq_true, Bool.true_eq_false, decide_eq_true_eq, endF_ret, endF_nx, endF_exc, pAt_int, pNo_e, dSl_e, newL_e, cast0, cast1, cast2, cast3, cast4, cast5, c2])]
  have d100 : ∀ h, oDiv (.int c) (.int 100) h = .ok (.int (c / 100)) h := fun h => oDivS (by omega) (by omega)
  have m60 : ∀ h, oMul (.int 60) (.int s) h = .ok (.int (60 * s)) h := fun h => oMul_i (mulOK_l (by decide))
  have md : ∀ h, oMod (.int (c / 100)) (.int (60 * s)) h = .ok (.int (c / 100 % (60 * s))) h := fun h => oModP (by omega)
  obtain ⟨tp, htp⟩ : ∃ tp, tp = c / 100 % (60 * s) := ⟨_, rfl⟩
  have tp1 : 0 ≤ tp := by rw [htp]; exact Int.emod_nonneg _ (by omega)
  have tp2 : tp < 60 * s := by rw [htp]; exact Int.emod_lt_of_pos _ (by omega)
  rw [← htp] at md
  rw [seq_nx (ρ1 := [w0, some (.int s), some (.int B), some (trW t), some (.int c), w5, some (.fl (R.zipIdx.map (rdW B))), some (.fl (stepsW B t K)), w8, some (.int tp), none, none, none, none, none, none]) (h1 := h1) (by
    generalize trW t = TW at *
    simp only [sSeq_t, then_nx, then_ret, then_bk, then_ct, then_exc, sAsg_e, sIf_e, sRet_e, sRetN_e, sExp_e, sNx_e, sBrk_e, sCnt_e, sRaise_e, sFor_e, onR_ok, onR_exc, onO_some, run_n, run_t, runs_nil, runs_cons, Option.bind_some, dV_0, dV_1, dV_2, dV_3, dV_4, dV_5, dV_6, dV_7, dV_8, dV_9, dV_10, dV_11, dV_12, dV_13, dV_14, dV_15, dV_16, dC_e, dBin_e, dUn_e, dAnd_e, dOr_e, dNot_e, tVal_e, tAnd_e, tOr_e, tNot_e, dIf_e, dCall_e, aNil_e, aCons_e, dTup_e, Res.bind_ok, Res.bind_exc, asB_b, oAdd_i, oSub_i, oLt_i, oLe_i, oGt_i, oGe_i, oNeg_i, oEq_d, oNe_d, oEq_s, oNe_s, oAddI_i, bLen_fl, bLen_tup, bMax2_i, bMin2_i, List.length_cons, List.length_nil, List.length_map, Nat.zero_add, Nat.reduceAdd, Nat.reduceLT, big_lit0, big_lit1, big_lit2, big_lit3, big_lit4, if_true, if_false, List.set_cons_zero, List.set_cons_succ, decide_true, decide_false, Bool.not_true, Bool.not_false, Bool.false_eq_true, Bool.true_eq_false, decide_eq_true_eq, endF_ret, endF_nx, endF_exc, pAt_int, pNo_e, dSl_e, newL_e, cast0, cast1, cast2, cast3, cast4, cast5, d100, m60, md])]
  have mm : ∀ h, oMod (.int c) (.int 60) h = .ok (.int (c % 60)) h := fun h => oModP (by omega)
  have b3 := Int.emod_nonneg c (show (60 : Int) ≠ 0 by omega)
  have b4 := Int.emod_lt_of_pos c (show (0 : Int) < 60 by omega)
  have ms : ∀ h, oMul (.int (c % 60)) (.int s) h = .ok (.int (c % 60 * s)) h := fun h => oMul_i (mulOK_l (by omega))
  have vs := mul_bd (a := c % 60) (s := s) (k := 60) (by omega) (by omega) (by omega)
  have v0 := Int.mul_nonneg b3 (show 0 ≤ s by omega)
  have d7 : ∀ h, oDiv (.int tp) (.int 7) h = .ok (.int (tp / 7)) h := fun h => oDivS (by omega) (by omega)
  obtain ⟨Q, hQ⟩ : ∃ Q : List (Int × Int), Q = [(tp, B), (c % 60 * s, B), (0, 1), (tp / 7, 1)] := ⟨_, rfl⟩
  have okQ : ∀ q, q ∈ Q → (0 ≤ q.1 ∧ q.1 < 2 ^ 90) ∧ (0 < q.2 ∧ q.2 < 2 ^ 90) := fun q hq => by
    rw [hQ] at hq
    simp only [List.mem_cons, List.not_mem_nil, or_false] at hq
    rcases hq with rfl | rfl | rfl | rfl
    · exact ⟨⟨tp1, by dsimp only; omega⟩, ⟨hB.1, by dsimp only; omega⟩⟩
    · exact ⟨⟨v0, by dsimp only; omega⟩, ⟨hB.1, by dsimp only; omega⟩⟩
    · exact ⟨⟨by dsimp only; omega, by dsimp only; omega⟩, ⟨by dsimp only; omega, by dsimp only; omega⟩⟩
    · exact ⟨⟨by dsimp only; omega, by dsimp only; omega⟩, ⟨by dsimp only; omega, by dsimp only; omega⟩⟩
  have lz : dGz (dLst (aCons (dTup (aCons (dV 9) (aCons (dV 2) (aNil)))) (aCons (dTup (aCons (dBin oMul (dBin oMod (dV 4) (dC (.int 60))) (dV 1)) (aCons (dV 2) (aNil)))) (aCons (dTup (aCons (dC (.int 0)) (aCons (dC (.int 1)) (aNil)))) (aCons (dTup (aCons (dBin oDiv (dV 9) (dC (.int 7))) (aCons (dC (.int 1)) (aNil)))) (aNil)))))) [w0, some (.int s), some (.int B), some (trW t), some (.int c), w5, some (.fl (R.zipIdx.map (rdW B))), some (.fl (stepsW B t K)), w8, some (.int tp), none, none, none, none, none, none] h1 = .ok (.fl (Q.map fun q => .tup [.int q.1, .int q.2])) h1 := lst_gz (by
    rw [hQ]
    generalize trW t = TW at *
    simp only [sSeq_t, then_nx, then_ret, then_bk, then_ct, then_exc, sAsg_e, sIf_e, sRet_e, sRetN_e, sExp_e, sNx_e, sBrk_e, sCnt_e, sRaise_e, sFor_e, onR_ok, onR_exc, onO_some, run_n, run_t, runs_nil, runs_cons, Option.bind_some, dV_0, dV_1, dV_2, dV_3, dV_4, dV_5, dV_6, dV_7, dV_8, dV_9, dV_10, dV_11, dV_12, dV_13, dV_14, dV_15, dV_16, dC_e, dBin_e, dUn_e, dAnd_e, dOr_e, dNot_e, tVal_e, tAnd_e, tOr_e, tNot_e, dIf_e, dCall_e, aNil_e, aCons_e, dTup_e, Res.bind_ok, Res.bind_exc, asB_b, oAdd_i, oSub_i, oLt_i, oLe_i, oGt_i, oGe_i, oNeg_i, oEq_d, oNe_d, oEq_s, oNe_s, oAddI_i, bLen_fl, bLen_tup, bMax2_i, bMin2_i, List.length_cons, List.length_nil, List.length_map, Nat.zero_add, Nat.reduceAdd, Nat.reduceLT, big_lit0, big_lit1, big_lit2, big_lit3, big_lit4, if_true, if_false, List.set_cons_zero, List.set_cons_succ, decide_true, decide_false, Bool.not_true, Bool.not_false, Bool.false_eq_true, Bool.true_eq_false, decide_eq_true_eq, endF_ret, endF_nx, endF_exc, pAt_int, pNo_e, dSl_e, newL_e, cast0, cast1, cast2, cast3, cast4, cast5, mm, ms, d7]
    rfl) (by rw [hQ]; simp) (by rw [hQ]; rfl)
  obtain ⟨ρ', h', e, d10, d11, d12, d13, d14, rfl, rfl⟩ := forL_all (g := [(.fl (Q.map fun q => .tup [.int q.1, .int q.2]), Q.map fun q => .tup [.int q.1, .int q.2])]) (tg := .n 10) (b := L2_law) (fun j ρ h' => ∃ (d10 d11 d12 d13 d14 : Option W), h' = h1 ∧ ρ = [w0, some (.int s), some (.int B), some (trW t), some (.int c), w5, some (.fl (R.zipIdx.map (rdW B))), some (.fl (stepsW B t K)), w8, some (.int tp), d10, d11, d12, d13, d14, none])
    (Q.map fun q => .tup [.int q.1, .int q.2]) [w0, some (.int s), some (.int B), some (trW t), some (.int c), w5, some (.fl (R.zipIdx.map (rdW B))), some (.fl (stepsW B t K)), w8, some (.int tp), none, none, none, none, none, none] h1 ⟨none, none, none, none, none, rfl, rfl⟩ (fun _ _ _ _ => stays_fl) (by
    rintro i w ρ h' hw ⟨d10, d11, d12, d13, d14, rfl, rfl⟩
    rw [List.getElem?_map] at hw
    obtain ⟨q, hq, rfl⟩ := Option.map_eq_some_iff.mp hw
    obtain ⟨o1, o2⟩ := okQ q (List.mem_of_getElem? hq)
    obtain ⟨a1, a2, a3, a4, ee⟩ := in41 w0 s B hB hh (by omega) tc rR g r c q.1 q.2 o1 o2 w5 w8 (some (.int tp)) d11 d12 d13 d14 none h'
    exact ⟨_, rfl, .inl ⟨_, _, ee, _, a1, a2, a3, a4, rfl, rfl⟩⟩)
  rw [seq_nx (by rw [sFor_e, iAny_fl lz, onR_ok]; exact e)]
  simp only [sRet_e, dC_e, onR_ok, endF_ret]
  exact gc_pure (h := []) (e := h') rfl
end Law
end PF
namespace PF
namespace Law
open PySem PySem.Spec PyProof.Rows L2
def topS (i : Nat) : Stmt := PySem.Challenge.pw_prunepath_k41_whole_ladder_meets_path.main.body.getD i (.Pass ⟨0, 0, 0, 0⟩)
abbrev s_shared_by : Stmt := topS 5
abbrev s_ratio : Stmt := topS 6
abbrev s_plus : Stmt := topS 7
abbrev s_under : Stmt := topS 10
abbrev s_joined_rung : Stmt := topS 12
abbrev s_rungs : Stmt := topS 13
abbrev s_ladder : Stmt := topS 14
abbrev s_first_point : Stmt := topS 16
abbrev s_minus : Stmt := topS 8
abbrev s_over : Stmt := topS 9
abbrev s_next_point : Stmt := topS 17
abbrev s_corners : Stmt := topS 18
abbrev s_best_under : Stmt := topS 21
abbrev s_cheapest : Stmt := topS 22
abbrev s_linked_under : Stmt := topS 24
abbrev s_all_links : Stmt := topS 25
abbrev s_tops_of : Stmt := topS 20
abbrev s_cut : Stmt := topS 26
abbrev s_least_link : Stmt := topS 28
abbrev s_path : Stmt := topS 29
abbrev s_for_price : Stmt := topS 30
abbrev s__law_cell : Stmt := topS 32
abbrev s__law_next : Stmt := topS 33
abbrev s__law_ratio : Stmt := topS 34
abbrev s__law_joined : Stmt := topS 36
abbrev s__law_tree : Stmt := topS 37
abbrev s__law_digit : Stmt := topS 38
abbrev s__law_grown : Stmt := topS 39
abbrev s__law_handed : Stmt := topS 40
abbrev s__law_drawn : Stmt := topS 41
abbrev s__law_sum : Stmt := topS 42
abbrev s__law_ends : Stmt := topS 44
abbrev s__law_is_pruning : Stmt := topS 45
abbrev s__law_worth : Stmt := topS 46
abbrev s_law : Stmt := topS 47
def inClass (st : Stmt) : Stmt := match st with
  | .ClassDef _ _ _ body _ _ _ _ _ _ _ => body.getD 0 (.Pass ⟨0, 0, 0, 0⟩)
  | s => s
abbrev s_init_NoPrice : Stmt := inClass (topS 3)
theorem sc_init_NoPrice : FnScope ["self", "price"] ["self", "price"] (defScope s_init_NoPrice) := ⟨rfl, rfl, rfl, by decide +kernel, rfl, by decide +kernel, by decide +kernel⟩
structure Txt (K : PySem.W.Frag) (mg : PySem.Str → Option Value) (cls : Cl) : Prop where
  su : cls.su = none
  n_abs : mg "abs" = none
  n_divmod : mg "divmod" = none
  n_enumerate : mg "enumerate" = none
  n_int : mg "int" = none
  n_isinstance : mg "isinstance" = none
  n_len : mg "len" = none
  n_list : mg "list" = none
  n_max : mg "max" = none
  n_min : mg "min" = none
  n_range : mg "range" = none
  n_set : mg "set" = none
  n_sorted : mg "sorted" = none
  x_NoRatio : ExF K mg (cls 1) "NoRatio"
section
variable {P : Program} {w : World} {K : PySem.W.Frag} {mg : PySem.Str → Option Value} {base : Heap} {cls : Cl}
theorem sc_shared_by : FnScope ["one", "other", "times_over", "rest"] ["one", "other"] (defScope s_shared_by) := ⟨rfl, rfl, rfl, by decide +kernel, rfl, by decide +kernel, by decide +kernel⟩
theorem gl_L1_shared_by : GrowS L1_shared_by := gs_seq (gs_asg (grow_call gc_divmod (gr_cons (gr_v _) (gr_cons (gr_v _) (gr_nil))))) (gs_seq (gs_asg (gr_v _)) (gs_asg (gr_v _)))
theorem grow_shared_by : GrowS b_shared_by := gs_seq (gs_asg (grow_call gc_abs (gr_cons (gr_v _) (gr_nil)))) (gs_seq (gs_asg (grow_call gc_abs (gr_cons (gr_v _) (gr_nil)))) (gs_seq (gs_while (grow_val (grow_bin g_gt (gr_v _) (grow_c _))) (gl_L1_shared_by)) (gs_ret (gr_v _))))
theorem gf_shared_by : GrC f_shared_by := grow_def grow_shared_by
theorem ok_shared_by {f : Addr} {fd : FuncData} (T : Txt K mg cls) (R : RawFn K mg "shared_by" s_shared_by ["one", "other"] f fd)  : FnAt P w K mg base cls "shared_by" 1 f_shared_by := by
  refine FnAt.mkE (en := gc) R sc_shared_by (end_gc T.su) (by decide) gf_shared_by fun cdv A outer s H E hr tk hp => ?_
  have nd := (sc_shared_by).nd
  have hu := hr.units
  exact rss_cons (rs_set 0 nd rfl (by first | exact Or.inl rfl | exact Or.inr rfl) (re_biB c_abs gc_abs (by rfl) T.n_abs boot_abs (ra_cons (re_v 0) (ra_nil)))) (rss_cons (rs_set 1 nd rfl (by first | exact Or.inl rfl | exact Or.inr rfl) (re_biB c_abs gc_abs (by rfl) T.n_abs boot_abs (ra_cons (re_v 1) (ra_nil)))) (rss_cons (rs_while hp (rt_cmp o_gt g_gt (re_v 1) (re_int) (nomark _)) (rss_cons (rs_asg (re_biB c_divmod gc_divmod (by rfl) T.n_divmod boot_divmod (ra_cons (re_v 0) (ra_cons (re_v 1) (ra_nil)))) (rg_t rfl (rgs_cons (rg_n 2 nd rfl (by first | exact Or.inl rfl | exact Or.inr rfl)) (rgs_cons (rg_n 3 nd rfl (by first | exact Or.inl rfl | exact Or.inr rfl)) (rgs_nil))))) (rss_cons (rs_set 0 nd rfl (by first | exact Or.inl rfl | exact Or.inr rfl) (re_v 1)) (rss_one (rs_set 1 nd rfl (by first | exact Or.inl rfl | exact Or.inr rfl) (re_v 3)))))) (rss_one (rs_ret (re_v 0)))))
theorem sc_ratio : FnScope ["top", "bottom", "common"] ["top", "bottom"] (defScope s_ratio) := ⟨rfl, rfl, rfl, by decide +kernel, rfl, by decide +kernel, by decide +kernel⟩
theorem grow_ratio : GrowS b_ratio := gs_seq (gs_if (grow_val (grow_bin g_eq (gr_v _) (grow_c _))) (gs_raise _) (gs_nx)) (gs_seq (gs_asg (grow_call gf_shared_by (gr_cons (gr_v _) (gr_cons (gr_v _) (gr_nil))))) (gs_seq (gs_if (grow_val (grow_bin g_lt (gr_v _) (grow_c _))) (gs_asg (grow_un g_neg (gr_v _))) (gs_nx)) (gs_ret (gr_tup (gr_cons (grow_bin g_div (gr_v _) (gr_v _)) (gr_cons (grow_bin g_div (gr_v _) (gr_v _)) (gr_nil)))))))
theorem gf_ratio : GrC f_ratio := grow_def grow_ratio
theorem ok_ratio {f : Addr} {fd : FuncData} (T : Txt K mg cls) (R : RawFn K mg "ratio" s_ratio ["top", "bottom"] f fd) (A_shared_by : FnAt P w K mg base cls "shared_by" 1 (f_shared_by)) : FnAt P w K mg base cls "ratio" 2 f_ratio := by
  refine FnAt.mkE (en := gc) R sc_ratio (end_gc T.su) (by decide) gf_ratio fun cdv A outer s H E hr tk hp => ?_
  have nd := (sc_ratio).nd
  have hu := hr.units
  exact rss_cons (rs_if (rt_cmp (o_eq hu) g_eq (re_v 1) (re_int) (nomark _)) (rss_one (rs_raise 1 rfl tk T.x_NoRatio (by rfl))) (rss_nil)) (rss_cons (rs_set 2 nd rfl (by first | exact Or.inl rfl | exact Or.inr rfl) (re_fn A_shared_by tk (hr.mono (by decide)) (by rfl) (ra_cons (re_v 0) (ra_cons (re_v 1) (ra_nil))))) (rss_cons (rs_if (rt_cmp o_lt g_lt (re_v 1) (re_int) (nomark _)) (rss_one (rs_set 2 nd rfl (by first | exact Or.inl rfl | exact Or.inr rfl) (re_un o_neg g_neg (re_v 2)))) (rss_nil)) (rss_one (rs_ret (re_tup (ra_cons (re_bin o_div g_div (re_v 0) (re_v 2)) (ra_cons (re_bin o_div g_div (re_v 1) (re_v 2)) (ra_nil))))))))
theorem sc_plus : FnScope ["one", "other"] ["one", "other"] (defScope s_plus) := ⟨rfl, rfl, rfl, by decide +kernel, rfl, by decide +kernel, by decide +kernel⟩
theorem grow_plus : GrowS b_plus := gs_ret (grow_call gf_ratio (gr_cons (grow_bin g_add (grow_bin g_mul (grow_bin g_ix (gr_v _) (grow_c _)) (grow_bin g_ix (gr_v _) (grow_c _))) (grow_bin g_mul (grow_bin g_ix (gr_v _) (grow_c _)) (grow_bin g_ix (gr_v _) (grow_c _)))) (gr_cons (grow_bin g_mul (grow_bin g_ix (gr_v _) (grow_c _)) (grow_bin g_ix (gr_v _) (grow_c _))) (gr_nil))))
theorem gf_plus : GrC f_plus := grow_def grow_plus
theorem ok_plus {f : Addr} {fd : FuncData} (T : Txt K mg cls) (R : RawFn K mg "plus" s_plus ["one", "other"] f fd) (A_ratio : FnAt P w K mg base cls "ratio" 2 (f_ratio)) : FnAt P w K mg base cls "plus" 3 f_plus := by
  refine FnAt.mkE (en := gc) R sc_plus (end_gc T.su) (by decide) gf_plus fun cdv A outer s H E hr tk hp => ?_
  have nd := (sc_plus).nd
  have hu := hr.units
  exact rss_one (rs_ret (re_fn A_ratio tk (hr.mono (by decide)) (by rfl) (ra_cons (re_bin o_add g_add (re_bin o_mul g_mul (re_ix (re_v 0) (re_int)) (re_ix (re_v 1) (re_int))) (re_bin o_mul g_mul (re_ix (re_v 1) (re_int)) (re_ix (re_v 0) (re_int)))) (ra_cons (re_bin o_mul g_mul (re_ix (re_v 0) (re_int)) (re_ix (re_v 1) (re_int))) (ra_nil)))))
theorem sc_under : FnScope ["one", "other"] ["one", "other"] (defScope s_under) := ⟨rfl, rfl, rfl, by decide +kernel, rfl, by decide +kernel, by decide +kernel⟩
theorem grow_under : GrowS b_under := gs_ret (grow_bin g_lt (grow_bin g_mul (grow_bin g_ix (gr_v _) (grow_c _)) (grow_bin g_ix (gr_v _) (grow_c _))) (grow_bin g_mul (grow_bin g_ix (gr_v _) (grow_c _)) (grow_bin g_ix (gr_v _) (grow_c _))))
theorem gf_under : GrC f_under := grow_def grow_under
theorem ok_under {f : Addr} {fd : FuncData} (T : Txt K mg cls) (R : RawFn K mg "under" s_under ["one", "other"] f fd)  : FnAt P w K mg base cls "under" 1 f_under := by
  refine FnAt.mkE (en := gc) R sc_under (end_gc T.su) (by decide) gf_under fun cdv A outer s H E hr tk hp => ?_
  have nd := (sc_under).nd
  have hu := hr.units
  exact rss_one (rs_ret (re_cmp o_lt g_lt (re_bin o_mul g_mul (re_ix (re_v 0) (re_int)) (re_ix (re_v 1) (re_int))) (re_bin o_mul g_mul (re_ix (re_v 1) (re_int)) (re_ix (re_v 0) (re_int))) (nomark _)))
theorem sc_joined_rung : FnScope ["left", "right", "many", "found", "k", "both", "yes", "no", "place"] ["left", "right", "many"] (defScope s_joined_rung) := ⟨rfl, rfl, rfl, by decide +kernel, rfl, by decide +kernel, by decide +kernel⟩
theorem gl_L1_joined_rung : GrowS L1_joined_rung := gs_seq (gs_asg (grow_call gf_plus (gr_cons (grow_bin g_ix (grow_bin g_ix (gr_v _) (grow_bin g_sub (gr_v _) (grow_c _))) (grow_c _)) (gr_cons (grow_bin g_ix (grow_bin g_ix (gr_v _) (grow_bin g_sub (grow_bin g_sub (gr_v _) (gr_v _)) (grow_c _))) (grow_c _)) (gr_nil))))) (gs_if (gr_tor (grow_val (grow_un g_isN (gr_v _))) (grow_val (grow_call gf_under (gr_cons (gr_v _) (gr_cons (grow_bin g_ix (gr_v _) (grow_c _)) (gr_nil)))))) (gs_asg (gr_tup (gr_cons (gr_v _) (gr_cons (gr_v _) (gr_nil))))) (gs_nx))
theorem grow_joined_rung : GrowS b_joined_rung := gs_seq (gs_asg (grow_c _)) (gs_seq (gs_for (gi_rng2 (grow_call gc_max2 (gr_cons (grow_c _) (gr_cons (grow_bin g_sub (gr_v _) (grow_call gc_len (gr_cons (gr_v _) (gr_nil)))) (gr_nil)))) (grow_bin g_add (grow_call gc_min2 (gr_cons (grow_call gc_len (gr_cons (gr_v _) (gr_nil))) (gr_cons (grow_bin g_sub (gr_v _) (grow_c _)) (gr_nil)))) (grow_c _))) (gl_L1_joined_rung)) (gs_seq (gs_asg (gr_gz (grow_comp (gi_any (grow_bin g_ix (grow_bin g_ix (gr_v _) (grow_bin g_sub (grow_bin g_ix (gr_v _) (grow_c _)) (grow_c _))) (grow_c _))) (gr_yes) (grow_bin g_add (grow_c _) (gr_v _))))) (gs_seq (gs_asg (gr_gz (grow_comp (gi_any (grow_bin g_ix (grow_bin g_ix (gr_v _) (grow_bin g_sub (grow_bin g_sub (gr_v _) (grow_bin g_ix (gr_v _) (grow_c _))) (grow_c _))) (grow_c _))) (gr_yes) (grow_bin g_add (grow_c _) (gr_v _))))) (gs_ret (gr_tup (gr_cons (grow_bin g_ix (gr_v _) (grow_c _)) (gr_cons (grow_call gc_sorted (gr_cons (grow_bin g_add (gr_v _) (gr_v _)) (gr_nil))) (gr_nil))))))))
theorem gf_joined_rung : GrC f_joined_rung := grow_mk grow_joined_rung
theorem ok_joined_rung {f : Addr} {fd : FuncData} (T : Txt K mg cls) (R : RawFn K mg "joined_rung" s_joined_rung ["left", "right", "many"] f fd) (A_plus : FnAt P w K mg base cls "plus" 3 (f_plus)) (A_under : FnAt P w K mg base cls "under" 1 (f_under)) : FnAt P w K mg base cls "joined_rung" 4 f_joined_rung := by
  refine FnAt.mkE (en := (fun _ r => r)) R sc_joined_rung end_id (by decide) gf_joined_rung fun cdv A outer s H E hr tk hp => ?_
  have nd := (sc_joined_rung).nd
  have hu := hr.units
  exact rss_cons (rs_set 3 nd rfl (by first | exact Or.inl rfl | exact Or.inr rfl) (re_non)) (rss_cons (rs_for hp rfl (ri_rng2 (by rfl) T.n_range (re_biB (c_max2 rfl) gc_max2 (by rfl) T.n_max boot_max (ra_cons (re_int) (ra_cons (re_bin o_sub g_sub (re_v 2) (re_biB c_len gc_len (by rfl) T.n_len boot_len (ra_cons (re_v 1) (ra_nil)))) (ra_nil)))) (re_bin o_add g_add (re_biB (c_min2 rfl) gc_min2 (by rfl) T.n_min boot_min (ra_cons (re_biB c_len gc_len (by rfl) T.n_len boot_len (ra_cons (re_v 0) (ra_nil))) (ra_cons (re_bin o_sub g_sub (re_v 2) (re_int)) (ra_nil)))) (re_int))) (rg_n 4 nd rfl (by first | exact Or.inl rfl | exact Or.inr rfl)) (rss_cons (rs_set 5 nd rfl (by first | exact Or.inl rfl | exact Or.inr rfl) (re_fn A_plus tk (hr.mono (by decide)) (by rfl) (ra_cons (re_ix (re_ix (re_v 0) (re_bin o_sub g_sub (re_v 4) (re_int))) (re_int)) (ra_cons (re_ix (re_ix (re_v 1) (re_bin o_sub g_sub (re_bin o_sub g_sub (re_v 2) (re_v 4)) (re_int))) (re_int)) (ra_nil))))) (rss_one (rs_if (rt_w (rw_or (rt_isN (re_v 3)) (rw_or1 (rt_val (re_fn A_under tk (hr.mono (by decide)) (by rfl) (ra_cons (re_v 5) (ra_cons (re_ix (re_v 3) (re_int)) (ra_nil)))))))) (rss_one (rs_set 3 nd rfl (by first | exact Or.inl rfl | exact Or.inr rfl) (re_tup (ra_cons (re_v 5) (ra_cons (re_v 4) (ra_nil)))))) (rss_nil))))) (rss_cons (rs_gzN T.su (rs_setComp (own := [("place", 8)]) 6 rfl nd rfl rfl (sw_true rfl rfl rfl (by decide +kernel)) (ri_any (re_ix (re_ix (re_v 0) (re_bin o_sub g_sub (re_ix (re_v 3) (re_int)) (re_int))) (re_int))) (blkOk_by (own := [("place", 8)]) (N := ["left", "right", "many", "found", "k", "both", "yes", "no", "place"]) (sc := defScope s_joined_rung) (by decide +kernel)) (fun _ _ _ _ _ => rg_n 8 nd rfl (by first | exact Or.inl rfl | exact Or.inr rfl)) (fun _ _ _ _ _ => rts_nil) (fun _ _ _ _ _ => re_bin o_add g_add (re_str [121]) (re_v 8)) (gr_yes) (grow_bin g_add (grow_c _) (gr_v _)) (by decide)) (grow_comp (gi_any (grow_bin g_ix (grow_bin g_ix (gr_v _) (grow_bin g_sub (grow_bin g_ix (gr_v _) (grow_c _)) (grow_c _))) (grow_c _))) (gr_yes) (grow_bin g_add (grow_c _) (gr_v _)))) (rss_cons (rs_gzN T.su (rs_setComp (own := [("place", 8)]) 7 rfl nd rfl rfl (sw_true rfl rfl rfl (by decide +kernel)) (ri_any (re_ix (re_ix (re_v 1) (re_bin o_sub g_sub (re_bin o_sub g_sub (re_v 2) (re_ix (re_v 3) (re_int))) (re_int))) (re_int))) (blkOk_by (own := [("place", 8)]) (N := ["left", "right", "many", "found", "k", "both", "yes", "no", "place"]) (sc := defScope s_joined_rung) (by decide +kernel)) (fun _ _ _ _ _ => rg_n 8 nd rfl (by first | exact Or.inl rfl | exact Or.inr rfl)) (fun _ _ _ _ _ => rts_nil) (fun _ _ _ _ _ => re_bin o_add g_add (re_str [110]) (re_v 8)) (gr_yes) (grow_bin g_add (grow_c _) (gr_v _)) (by decide)) (grow_comp (gi_any (grow_bin g_ix (grow_bin g_ix (gr_v _) (grow_bin g_sub (grow_bin g_sub (gr_v _) (grow_bin g_ix (gr_v _) (grow_c _))) (grow_c _))) (grow_c _))) (gr_yes) (grow_bin g_add (grow_c _) (gr_v _)))) (rss_one (rs_ret (re_tup (ra_cons (re_ix (re_v 3) (re_int)) (ra_cons (re_biB (c_sorted rfl) gc_sorted (by rfl) T.n_sorted boot_sorted (ra_cons (re_bin o_add g_add (re_v 6) (re_v 7)) (ra_nil))) (ra_nil)))))))))
theorem sc_rungs : FnScope ["tree", "made", "left", "right", "many"] ["tree"] (defScope s_rungs) := ⟨rfl, rfl, rfl, by decide +kernel, rfl, by decide +kernel, by decide +kernel⟩
theorem gl_L1_rungs {rec : Fn} (gr0 : GrC rec) : GrowS (L1_rungs rec) := gs_exp (gr_met gm_append (gr_v _) (gr_cons (grow_call gf_joined_rung (gr_cons (gr_v _) (gr_cons (gr_v _) (gr_cons (gr_v _) (gr_nil))))) (gr_nil)))
theorem grow_rungs {rec : Fn} (gr0 : GrC rec) : GrowS (b_rungs rec) := gs_seq (gs_asg (gr_lst (gr_cons (gr_tup (gr_cons (grow_bin g_ix (gr_v _) (grow_c _)) (gr_cons (gr_lst (gr_cons (grow_c _) (gr_nil))) (gr_nil)))) (gr_nil)))) (gs_seq (gs_if (grow_val (grow_bin g_eq (grow_bin g_ix (gr_v _) (grow_c _)) (grow_c _))) (gs_ret (gr_v _)) (gs_nx)) (gs_seq (gs_asg (gr_gz (grow_call gr0 (gr_cons (grow_bin g_ix (gr_v _) (grow_c _)) (gr_nil))))) (gs_seq (gs_asg (gr_gz (grow_call gr0 (gr_cons (grow_bin g_ix (gr_v _) (grow_c _)) (gr_nil))))) (gs_seq (gs_for (gi_rng2 (grow_c _) (grow_bin g_add (grow_bin g_add (grow_call gc_len (gr_cons (gr_v _) (gr_nil))) (grow_call gc_len (gr_cons (gr_v _) (gr_nil)))) (grow_c _))) (gl_L1_rungs gr0)) (gs_ret (gr_v _))))))
theorem gf_rungs : ∀ m, GrC (f_rungs m)
  | 0 => fun _ _ => trivial
  | m + 1 => grow_mk (grow_rungs (gf_rungs m))
theorem ok_rungs {f : Addr} {fd : FuncData} (T : Txt K mg cls) (R : RawFn K mg "rungs" s_rungs ["tree"] f fd) (A_joined_rung : FnAt P w K mg base cls "joined_rung" 4 (f_joined_rung)) : ∀ m, FnAt P w K mg base cls "rungs" (4 + m + 1) (f_rungs m)
  | 0 => fn_none R _
  | m + 1 => by
    have IH := ok_rungs T R A_joined_rung m
    refine FnAt.mkE (en := (fun _ r => r)) R sc_rungs end_id (by decide) (gf_rungs (m + 1)) fun cdv A outer s H E hr tk hp => ?_
    have nd := (sc_rungs).nd
    have hu := hr.units
    exact rss_cons (rs_set 1 nd rfl (by first | exact Or.inl rfl | exact Or.inr rfl) (re_lst (ra_cons (re_tup (ra_cons (re_ix (re_v 0) (re_int)) (ra_cons (re_lst (ra_cons (re_str []) (ra_nil))) (ra_nil)))) (ra_nil)))) (rss_cons (rs_if (rt_cmp (o_eq hu) g_eq (re_ix (re_v 0) (re_int)) (re_str [101, 110, 100]) (nomark _)) (rss_one (rs_ret (re_v 1))) (rss_nil)) (rss_cons (rs_set 2 nd rfl (by first | exact Or.inl rfl | exact Or.inr rfl) (re_gz T.su (re_fn IH tk (hr.mono (by omega)) (by rfl) (ra_cons (re_ix (re_v 0) (re_int)) (ra_nil))))) (rss_cons (rs_set 3 nd rfl (by first | exact Or.inl rfl | exact Or.inr rfl) (re_gz T.su (re_fn IH tk (hr.mono (by omega)) (by rfl) (ra_cons (re_ix (re_v 0) (re_int)) (ra_nil))))) (rss_cons (rs_for hp rfl (ri_rng2 (by rfl) T.n_range (re_int) (re_bin o_add g_add (re_bin o_add g_add (re_biB c_len gc_len (by rfl) T.n_len boot_len (ra_cons (re_v 2) (ra_nil))) (re_biB c_len gc_len (by rfl) T.n_len boot_len (ra_cons (re_v 3) (ra_nil)))) (re_int))) (rg_n 4 nd rfl (by first | exact Or.inl rfl | exact Or.inr rfl)) (rss_one (rs_exp (re_met (k := .lst) PySem.F.plainAttrs_list PySem.F.slot_list_append PySem.F.type_list_append m_append gm_append (re_v 1) (ra_cons (re_fn A_joined_rung tk (hr.mono (by omega)) (by rfl) (ra_cons (re_v 2) (ra_cons (re_v 3) (ra_cons (re_v 4) (ra_nil))))) (ra_nil)))))) (rss_one (rs_ret (re_v 1)))))))
theorem sc_ladder : FnScope ["tree", "k", "rung"] ["tree"] (defScope s_ladder) := ⟨rfl, rfl, rfl, by decide +kernel, rfl, by decide +kernel, by decide +kernel⟩
theorem grow_ladder : GrowS b_ladder := gs_ret (grow_comp (gi_enum (grow_call (gf_rungs _) (gr_cons (gr_v _) (gr_nil)))) (gr_yes) (gr_tup (gr_cons (grow_bin g_add (gr_v _) (grow_c _)) (gr_cons (grow_bin g_ix (gr_v _) (grow_c _)) (gr_cons (grow_bin g_ix (gr_v _) (grow_c _)) (gr_nil))))))
theorem gf_ladder : GrC f_ladder := grow_mk grow_ladder
theorem ok_ladder {f : Addr} {fd : FuncData} (T : Txt K mg cls) (R : RawFn K mg "ladder" s_ladder ["tree"] f fd) (A_rungs : FnAt P w K mg base cls "rungs" 69 ((f_rungs 64))) : FnAt P w K mg base cls "ladder" 70 f_ladder := by
  refine FnAt.mkE (en := (fun _ r => r)) R sc_ladder end_id (by decide) gf_ladder fun cdv A outer s H E hr tk hp => ?_
  have nd := (sc_ladder).nd
  have hu := hr.units
  exact rss_one (rs_ret (re_comp (own := [("k", 1), ("rung", 2)]) rfl nd (ri_enum (by rfl) T.n_enumerate (re_fn A_rungs tk (hr.mono (by decide)) (by rfl) (ra_cons (re_v 0) (ra_nil)))) (blkOk_by (own := [("k", 1), ("rung", 2)]) (N := ["tree", "k", "rung"]) (sc := defScope s_ladder) (by decide +kernel)) (fun _ _ _ _ _ => rg_t rfl (rgs_cons (rg_n 1 nd rfl (by first | exact Or.inl rfl | exact Or.inr rfl)) (rgs_cons (rg_n 2 nd rfl (by first | exact Or.inl rfl | exact Or.inr rfl)) (rgs_nil)))) (fun _ _ _ _ _ => rts_nil) (fun _ _ _ _ _ => re_tup (ra_cons (re_bin o_add g_add (re_v 1) (re_int)) (ra_cons (re_ix (re_v 2) (re_int)) (ra_cons (re_ix (re_v 2) (re_int)) (ra_nil))))) (gr_yes) (gr_tup (gr_cons (grow_bin g_add (gr_v _) (grow_c _)) (gr_cons (grow_bin g_ix (gr_v _) (grow_c _)) (gr_cons (grow_bin g_ix (gr_v _) (grow_c _)) (gr_nil))))) (by decide)))
theorem sc_first_point : FnScope ["points", "found", "point"] ["points"] (defScope s_first_point) := ⟨rfl, rfl, rfl, by decide +kernel, rfl, by decide +kernel, by decide +kernel⟩
theorem gl_L1_first_point : GrowS L1_first_point := gs_if (grow_val (grow_call gf_under (gr_cons (grow_bin g_ix (gr_v _) (grow_c _)) (gr_cons (grow_bin g_ix (gr_v _) (grow_c _)) (gr_nil))))) (gs_asg (gr_v _)) (gs_nx)
theorem grow_first_point : GrowS b_first_point := gs_seq (gs_asg (grow_bin g_ix (gr_v _) (grow_c _))) (gs_seq (gs_for (gi_any (gr_v _)) (gl_L1_first_point)) (gs_ret (gr_v _)))
theorem gf_first_point : GrC f_first_point := grow_def grow_first_point
theorem ok_first_point {f : Addr} {fd : FuncData} (T : Txt K mg cls) (R : RawFn K mg "first_point" s_first_point ["points"] f fd) (A_under : FnAt P w K mg base cls "under" 1 (f_under)) : FnAt P w K mg base cls "first_point" 2 f_first_point := by
  refine FnAt.mkE (en := gc) R sc_first_point (end_gc T.su) (by decide) gf_first_point fun cdv A outer s H E hr tk hp => ?_
  have nd := (sc_first_point).nd
  have hu := hr.units
  exact rss_cons (rs_set 1 nd rfl (by first | exact Or.inl rfl | exact Or.inr rfl) (re_ix (re_v 0) (re_int))) (rss_cons (rs_for hp rfl (ri_any (re_v 0)) (rg_n 2 nd rfl (by first | exact Or.inl rfl | exact Or.inr rfl)) (rss_one (rs_if (rt_val (re_fn A_under tk (hr.mono (by decide)) (by rfl) (ra_cons (re_ix (re_v 2) (re_int)) (ra_cons (re_ix (re_v 1) (re_int)) (ra_nil))))) (rss_one (rs_set 1 nd rfl (by first | exact Or.inl rfl | exact Or.inr rfl) (re_v 2))) (rss_nil)))) (rss_one (rs_ret (re_v 1))))
theorem sc_minus : FnScope ["one", "other"] ["one", "other"] (defScope s_minus) := ⟨rfl, rfl, rfl, by decide +kernel, rfl, by decide +kernel, by decide +kernel⟩
theorem grow_minus : GrowS b_minus := gs_ret (grow_call gf_ratio (gr_cons (grow_bin g_sub (grow_bin g_mul (grow_bin g_ix (gr_v _) (grow_c _)) (grow_bin g_ix (gr_v _) (grow_c _))) (grow_bin g_mul (grow_bin g_ix (gr_v _) (grow_c _)) (grow_bin g_ix (gr_v _) (grow_c _)))) (gr_cons (grow_bin g_mul (grow_bin g_ix (gr_v _) (grow_c _)) (grow_bin g_ix (gr_v _) (grow_c _))) (gr_nil))))
theorem gf_minus : GrC f_minus := grow_def grow_minus
theorem ok_minus {f : Addr} {fd : FuncData} (T : Txt K mg cls) (R : RawFn K mg "minus" s_minus ["one", "other"] f fd) (A_ratio : FnAt P w K mg base cls "ratio" 2 (f_ratio)) : FnAt P w K mg base cls "minus" 3 f_minus := by
  refine FnAt.mkE (en := gc) R sc_minus (end_gc T.su) (by decide) gf_minus fun cdv A outer s H E hr tk hp => ?_
  have nd := (sc_minus).nd
  have hu := hr.units
  exact rss_one (rs_ret (re_fn A_ratio tk (hr.mono (by decide)) (by rfl) (ra_cons (re_bin o_sub g_sub (re_bin o_mul g_mul (re_ix (re_v 0) (re_int)) (re_ix (re_v 1) (re_int))) (re_bin o_mul g_mul (re_ix (re_v 1) (re_int)) (re_ix (re_v 0) (re_int)))) (ra_cons (re_bin o_mul g_mul (re_ix (re_v 0) (re_int)) (re_ix (re_v 1) (re_int))) (ra_nil)))))
theorem sc_over : FnScope ["one", "other"] ["one", "other"] (defScope s_over) := ⟨rfl, rfl, rfl, by decide +kernel, rfl, by decide +kernel, by decide +kernel⟩
theorem grow_over : GrowS b_over := gs_seq (gs_if (grow_val (grow_bin g_eq (grow_bin g_ix (gr_v _) (grow_c _)) (grow_c _))) (gs_raise _) (gs_nx)) (gs_ret (grow_call gf_ratio (gr_cons (grow_bin g_mul (grow_bin g_ix (gr_v _) (grow_c _)) (grow_bin g_ix (gr_v _) (grow_c _))) (gr_cons (grow_bin g_mul (grow_bin g_ix (gr_v _) (grow_c _)) (grow_bin g_ix (gr_v _) (grow_c _))) (gr_nil)))))
theorem gf_over : GrC f_over := grow_def grow_over
theorem ok_over {f : Addr} {fd : FuncData} (T : Txt K mg cls) (R : RawFn K mg "over" s_over ["one", "other"] f fd) (A_ratio : FnAt P w K mg base cls "ratio" 2 (f_ratio)) : FnAt P w K mg base cls "over" 3 f_over := by
  refine FnAt.mkE (en := gc) R sc_over (end_gc T.su) (by decide) gf_over fun cdv A outer s H E hr tk hp => ?_
  have nd := (sc_over).nd
  have hu := hr.units
  exact rss_cons (rs_if (rt_cmp (o_eq hu) g_eq (re_ix (re_v 1) (re_int)) (re_int) (nomark _)) (rss_one (rs_raise 1 rfl tk T.x_NoRatio (by rfl))) (rss_nil)) (rss_one (rs_ret (re_fn A_ratio tk (hr.mono (by decide)) (by rfl) (ra_cons (re_bin o_mul g_mul (re_ix (re_v 0) (re_int)) (re_ix (re_v 1) (re_int))) (ra_cons (re_bin o_mul g_mul (re_ix (re_v 0) (re_int)) (re_ix (re_v 1) (re_int))) (ra_nil))))))
theorem sc_next_point : FnScope ["points", "here", "found", "point", "price"] ["points", "here"] (defScope s_next_point) := ⟨rfl, rfl, rfl, by decide +kernel, rfl, by decide +kernel, by decide +kernel⟩
theorem gl_L1_next_point : GrowS L1_next_point := gs_if (grow_val (grow_bin g_lt (grow_bin g_ix (gr_v _) (grow_c _)) (grow_bin g_ix (gr_v _) (grow_c _)))) (gs_seq (gs_asg (grow_call gf_over (gr_cons (grow_call gf_minus (gr_cons (grow_bin g_ix (gr_v _) (grow_c _)) (gr_cons (grow_bin g_ix (gr_v _) (grow_c _)) (gr_nil)))) (gr_cons (grow_call gf_ratio (gr_cons (grow_bin g_sub (grow_bin g_ix (gr_v _) (grow_c _)) (grow_bin g_ix (gr_v _) (grow_c _))) (gr_cons (grow_c _) (gr_nil)))) (gr_nil))))) (gs_if (gr_tor (grow_val (grow_un g_isN (gr_v _))) (grow_val (grow_call gf_under (gr_cons (gr_v _) (gr_cons (grow_bin g_ix (gr_v _) (grow_c _)) (gr_nil)))))) (gs_asg (gr_tup (gr_cons (gr_v _) (gr_cons (gr_v _) (gr_nil))))) (gs_nx))) (gs_nx)
theorem grow_next_point : GrowS b_next_point := gs_seq (gs_asg (grow_c _)) (gs_seq (gs_for (gi_any (gr_v _)) (gl_L1_next_point)) (gs_ret (gr_v _)))
theorem gf_next_point : GrC f_next_point := grow_def grow_next_point
theorem ok_next_point {f : Addr} {fd : FuncData} (T : Txt K mg cls) (R : RawFn K mg "next_point" s_next_point ["points", "here"] f fd) (A_ratio : FnAt P w K mg base cls "ratio" 2 (f_ratio)) (A_minus : FnAt P w K mg base cls "minus" 3 (f_minus)) (A_over : FnAt P w K mg base cls "over" 3 (f_over)) (A_under : FnAt P w K mg base cls "under" 1 (f_under)) : FnAt P w K mg base cls "next_point" 4 f_next_point := by
  refine FnAt.mkE (en := gc) R sc_next_point (end_gc T.su) (by decide) gf_next_point fun cdv A outer s H E hr tk hp => ?_
  have nd := (sc_next_point).nd
  have hu := hr.units
  exact rss_cons (rs_set 2 nd rfl (by first | exact Or.inl rfl | exact Or.inr rfl) (re_non)) (rss_cons (rs_for hp rfl (ri_any (re_v 0)) (rg_n 3 nd rfl (by first | exact Or.inl rfl | exact Or.inr rfl)) (rss_one (rs_if (rt_cmp o_lt g_lt (re_ix (re_v 3) (re_int)) (re_ix (re_v 1) (re_int)) (nomark _)) (rss_cons (rs_set 4 nd rfl (by first | exact Or.inl rfl | exact Or.inr rfl) (re_fn A_over tk (hr.mono (by decide)) (by rfl) (ra_cons (re_fn A_minus tk (hr.mono (by decide)) (by rfl) (ra_cons (re_ix (re_v 3) (re_int)) (ra_cons (re_ix (re_v 1) (re_int)) (ra_nil)))) (ra_cons (re_fn A_ratio tk (hr.mono (by decide)) (by rfl) (ra_cons (re_bin o_sub g_sub (re_ix (re_v 1) (re_int)) (re_ix (re_v 3) (re_int))) (ra_cons (re_int) (ra_nil)))) (ra_nil))))) (rss_one (rs_if (rt_w (rw_or (rt_isN (re_v 2)) (rw_or1 (rt_val (re_fn A_under tk (hr.mono (by decide)) (by rfl) (ra_cons (re_v 4) (ra_cons (re_ix (re_v 2) (re_int)) (ra_nil)))))))) (rss_one (rs_set 2 nd rfl (by first | exact Or.inl rfl | exact Or.inr rfl) (re_tup (ra_cons (re_v 4) (ra_cons (re_v 3) (ra_nil)))))) (rss_nil)))) (rss_nil)))) (rss_one (rs_ret (re_v 2))))
theorem sc_corners : FnScope ["points", "here", "made", "turn"] ["points"] (defScope s_corners) := ⟨rfl, rfl, rfl, by decide +kernel, rfl, by decide +kernel, by decide +kernel⟩
theorem gl_L1_corners : GrowS L1_corners := gs_seq (gs_asg (grow_bin g_ix (gr_v _) (grow_c _))) (gs_seq (gs_exp (gr_met gm_append (gr_v _) (gr_cons (gr_tup (gr_cons (grow_bin g_ix (gr_v _) (grow_c _)) (gr_cons (grow_bin g_ix (gr_v _) (grow_c _)) (gr_nil)))) (gr_nil)))) (gs_asg (grow_call gf_next_point (gr_cons (gr_v _) (gr_cons (gr_v _) (gr_nil))))))
theorem grow_corners : GrowS b_corners := gs_seq (gs_if (grow_val (grow_bin g_eq (grow_call gc_len (gr_cons (gr_v _) (gr_nil))) (grow_c _))) (gs_ret (gr_gz (gr_lst (gr_nil)))) (gs_nx)) (gs_seq (gs_asg (grow_call gf_first_point (gr_cons (gr_v _) (gr_nil)))) (gs_seq (gs_asg (gr_lst (gr_cons (gr_tup (gr_cons (gr_tup (gr_cons (grow_c _) (gr_cons (grow_c _) (gr_nil)))) (gr_cons (grow_bin g_ix (gr_v _) (grow_c _)) (gr_nil)))) (gr_nil)))) (gs_seq (gs_asg (grow_call gf_next_point (gr_cons (gr_v _) (gr_cons (gr_v _) (gr_nil))))) (gs_seq (gs_while (grow_val (grow_un g_notN (gr_v _))) (gl_L1_corners)) (gs_ret (gr_v _))))))
theorem gf_corners : GrC f_corners := grow_def grow_corners
theorem ok_corners {f : Addr} {fd : FuncData} (T : Txt K mg cls) (R : RawFn K mg "corners" s_corners ["points"] f fd) (A_first_point : FnAt P w K mg base cls "first_point" 2 (f_first_point)) (A_next_point : FnAt P w K mg base cls "next_point" 4 (f_next_point)) : FnAt P w K mg base cls "corners" 5 f_corners := by
  refine FnAt.mkE (en := gc) R sc_corners (end_gc T.su) (by decide) gf_corners fun cdv A outer s H E hr tk hp => ?_
  have nd := (sc_corners).nd
  have hu := hr.units
  exact rss_cons (rs_if (rt_cmp (o_eq hu) g_eq (re_biB c_len gc_len (by rfl) T.n_len boot_len (ra_cons (re_v 0) (ra_nil))) (re_int) (nomark _)) (rss_one (rs_ret (re_gz T.su (re_lst (ra_nil))))) (rss_nil)) (rss_cons (rs_set 1 nd rfl (by first | exact Or.inl rfl | exact Or.inr rfl) (re_fn A_first_point tk (hr.mono (by decide)) (by rfl) (ra_cons (re_v 0) (ra_nil)))) (rss_cons (rs_set 2 nd rfl (by first | exact Or.inl rfl | exact Or.inr rfl) (re_lst (ra_cons (re_tup (ra_cons (re_tup (ra_cons (re_int) (ra_cons (re_int) (ra_nil)))) (ra_cons (re_ix (re_v 1) (re_int)) (ra_nil)))) (ra_nil)))) (rss_cons (rs_set 3 nd rfl (by first | exact Or.inl rfl | exact Or.inr rfl) (re_fn A_next_point tk (hr.mono (by decide)) (by rfl) (ra_cons (re_v 0) (ra_cons (re_v 1) (ra_nil))))) (rss_cons (rs_while hp (rt_notN (re_v 3)) (rss_cons (rs_set 1 nd rfl (by first | exact Or.inl rfl | exact Or.inr rfl) (re_ix (re_v 3) (re_int))) (rss_cons (rs_exp (re_met (k := .lst) PySem.F.plainAttrs_list PySem.F.slot_list_append PySem.F.type_list_append m_append gm_append (re_v 2) (ra_cons (re_tup (ra_cons (re_ix (re_v 3) (re_int)) (ra_cons (re_ix (re_v 1) (re_int)) (ra_nil)))) (ra_nil)))) (rss_one (rs_set 3 nd rfl (by first | exact Or.inl rfl | exact Or.inr rfl) (re_fn A_next_point tk (hr.mono (by decide)) (by rfl) (ra_cons (re_v 0) (ra_cons (re_v 1) (ra_nil))))))))) (rss_one (rs_ret (re_v 2)))))))
theorem sc_best_under : FnScope ["tree", "price", "place", "own", "yes_total", "yes_places", "no_total", "no_places", "both"] ["tree", "price", "place"] (defScope s_best_under) := ⟨rfl, rfl, rfl, by decide +kernel, rfl, by decide +kernel, by decide +kernel⟩
theorem grow_best_under {rec : Fn} (gr0 : GrC rec) : GrowS (b_best_under rec) := gs_seq (gs_asg (grow_call gf_plus (gr_cons (grow_bin g_ix (gr_v _) (grow_c _)) (gr_cons (gr_v _) (gr_nil))))) (gs_seq (gs_if (grow_val (grow_bin g_eq (grow_bin g_ix (gr_v _) (grow_c _)) (grow_c _))) (gs_ret (gr_tup (gr_cons (gr_v _) (gr_cons (gr_gz (gr_lst (gr_cons (gr_v _) (gr_nil)))) (gr_nil))))) (gs_nx)) (gs_seq (gs_asg (grow_call gr0 (gr_cons (grow_bin g_ix (gr_v _) (grow_c _)) (gr_cons (gr_v _) (gr_cons (grow_bin g_add (gr_v _) (grow_c _)) (gr_nil)))))) (gs_seq (gs_asg (grow_call gr0 (gr_cons (grow_bin g_ix (gr_v _) (grow_c _)) (gr_cons (gr_v _) (gr_cons (grow_bin g_add (gr_v _) (grow_c _)) (gr_nil)))))) (gs_seq (gs_asg (grow_call gf_plus (gr_cons (gr_v _) (gr_cons (gr_v _) (gr_nil))))) (gs_seq (gs_if (grow_val (grow_call gf_under (gr_cons (gr_v _) (gr_cons (gr_v _) (gr_nil))))) (gs_ret (gr_tup (gr_cons (gr_v _) (gr_cons (gr_gz (grow_bin g_add (gr_v _) (gr_v _))) (gr_nil))))) (gs_nx)) (gs_ret (gr_tup (gr_cons (gr_v _) (gr_cons (gr_gz (gr_lst (gr_cons (gr_v _) (gr_nil)))) (gr_nil))))))))))
theorem gf_best_under : ∀ m, GrC (f_best_under m)
  | 0 => fun _ _ => trivial
  | m + 1 => grow_def (grow_best_under (gf_best_under m))
theorem ok_best_under {f : Addr} {fd : FuncData} (T : Txt K mg cls) (R : RawFn K mg "best_under" s_best_under ["tree", "price", "place"] f fd) (A_plus : FnAt P w K mg base cls "plus" 3 (f_plus)) (A_under : FnAt P w K mg base cls "under" 1 (f_under)) : ∀ m, FnAt P w K mg base cls "best_under" (3 + m + 1) (f_best_under m)
  | 0 => fn_none R _
  | m + 1 => by
    have IH := ok_best_under T R A_plus A_under m
    refine FnAt.mkE (en := gc) R sc_best_under (end_gc T.su) (by decide) (gf_best_under (m + 1)) fun cdv A outer s H E hr tk hp => ?_
    have nd := (sc_best_under).nd
    have hu := hr.units
    exact rss_cons (rs_set 3 nd rfl (by first | exact Or.inl rfl | exact Or.inr rfl) (re_fn A_plus tk (hr.mono (by omega)) (by rfl) (ra_cons (re_ix (re_v 0) (re_int)) (ra_cons (re_v 1) (ra_nil))))) (rss_cons (rs_if (rt_cmp (o_eq hu) g_eq (re_ix (re_v 0) (re_int)) (re_str [101, 110, 100]) (nomark _)) (rss_one (rs_ret (re_tup (ra_cons (re_v 3) (ra_cons (re_gz T.su (re_lst (ra_cons (re_v 2) (ra_nil)))) (ra_nil)))))) (rss_nil)) (rss_cons (rs_asg (re_fn IH tk (hr.mono (by omega)) (by rfl) (ra_cons (re_ix (re_v 0) (re_int)) (ra_cons (re_v 1) (ra_cons (re_bin o_add g_add (re_v 2) (re_str [121])) (ra_nil))))) (rg_t rfl (rgs_cons (rg_n 4 nd rfl (by first | exact Or.inl rfl | exact Or.inr rfl)) (rgs_cons (rg_n 5 nd rfl (by first | exact Or.inl rfl | exact Or.inr rfl)) (rgs_nil))))) (rss_cons (rs_asg (re_fn IH tk (hr.mono (by omega)) (by rfl) (ra_cons (re_ix (re_v 0) (re_int)) (ra_cons (re_v 1) (ra_cons (re_bin o_add g_add (re_v 2) (re_str [110])) (ra_nil))))) (rg_t rfl (rgs_cons (rg_n 6 nd rfl (by first | exact Or.inl rfl | exact Or.inr rfl)) (rgs_cons (rg_n 7 nd rfl (by first | exact Or.inl rfl | exact Or.inr rfl)) (rgs_nil))))) (rss_cons (rs_set 8 nd rfl (by first | exact Or.inl rfl | exact Or.inr rfl) (re_fn A_plus tk (hr.mono (by omega)) (by rfl) (ra_cons (re_v 4) (ra_cons (re_v 6) (ra_nil))))) (rss_cons (rs_if (rt_val (re_fn A_under tk (hr.mono (by omega)) (by rfl) (ra_cons (re_v 8) (ra_cons (re_v 3) (ra_nil))))) (rss_one (rs_ret (re_tup (ra_cons (re_v 8) (ra_cons (re_gz T.su (re_bin o_add g_add (re_v 7) (re_v 5))) (ra_nil)))))) (rss_nil)) (rss_one (rs_ret (re_tup (ra_cons (re_v 3) (ra_cons (re_gz T.su (re_lst (ra_cons (re_v 2) (ra_nil)))) (ra_nil)))))))))))
theorem sc_cheapest : FnScope ["tree", "price"] ["tree", "price"] (defScope s_cheapest) := ⟨rfl, rfl, rfl, by decide +kernel, rfl, by decide +kernel, by decide +kernel⟩
theorem grow_cheapest : GrowS b_cheapest := gs_seq (gs_if (grow_val (grow_bin g_lt (grow_bin g_ix (gr_v _) (grow_c _)) (grow_c _))) (gs_raiseF _ _ (gr_v _)) (gs_nx)) (gs_ret (grow_bin g_ix (grow_call (gf_best_under _) (gr_cons (gr_v _) (gr_cons (gr_v _) (gr_cons (grow_c _) (gr_nil))))) (grow_c _)))
theorem gf_cheapest : GrC f_cheapest := grow_def grow_cheapest
theorem ok_cheapest {f : Addr} {fd : FuncData} (T : Txt K mg cls) (R : RawFn K mg "cheapest" s_cheapest ["tree", "price"] f fd) (A_best_under : FnAt P w K mg base cls "best_under" 68 ((f_best_under 64))) (I_NoPrice : ExI P w K mg base (cls 2) "NoPrice" "price") : FnAt P w K mg base cls "cheapest" 69 f_cheapest := by
  refine FnAt.mkE (en := gc) R sc_cheapest (end_gc T.su) (by decide) gf_cheapest fun cdv A outer s H E hr tk hp => ?_
  have nd := (sc_cheapest).nd
  have hu := hr.units
  exact rss_cons (rs_if (rt_cmp o_lt g_lt (re_ix (re_v 1) (re_int)) (re_int) (nomark _)) (rss_one (rs_raiseF 2 [112, 114, 105, 99, 101] rfl tk I_NoPrice rfl (hr.mono (by decide)) (by rfl) (re_v 1))) (rss_nil)) (rss_one (rs_ret (re_ix (re_fn A_best_under tk (hr.mono (by decide)) (by rfl) (ra_cons (re_v 0) (ra_cons (re_v 1) (ra_cons (re_str []) (ra_nil))))) (re_int))))
theorem sc_linked_under : FnScope ["tree", "places", "place", "yes_cost", "yes_many", "yes_links", "no_cost", "no_many", "no_links", "rest", "many", "own"] ["tree", "places", "place"] (defScope s_linked_under) := ⟨rfl, rfl, rfl, by decide +kernel, rfl, by decide +kernel, by decide +kernel⟩
theorem grow_linked_under {rec : Fn} (gr0 : GrC rec) : GrowS (b_linked_under rec) := gs_seq (gs_if (grow_val (grow_bin g_in (gr_v _) (gr_v _))) (gs_ret (gr_tup (gr_cons (grow_bin g_ix (gr_v _) (grow_c _)) (gr_cons (grow_c _) (gr_cons (gr_gz (gr_lst (gr_nil))) (gr_nil)))))) (gs_nx)) (gs_seq (gs_asg (grow_call gr0 (gr_cons (grow_bin g_ix (gr_v _) (grow_c _)) (gr_cons (gr_v _) (gr_cons (grow_bin g_add (gr_v _) (grow_c _)) (gr_nil)))))) (gs_seq (gs_asg (grow_call gr0 (gr_cons (grow_bin g_ix (gr_v _) (grow_c _)) (gr_cons (gr_v _) (gr_cons (grow_bin g_add (gr_v _) (grow_c _)) (gr_nil)))))) (gs_seq (gs_asg (grow_call gf_plus (gr_cons (gr_v _) (gr_cons (gr_v _) (gr_nil))))) (gs_seq (gs_asg (grow_bin g_add (gr_v _) (gr_v _))) (gs_seq (gs_asg (grow_call gf_over (gr_cons (grow_call gf_minus (gr_cons (grow_bin g_ix (gr_v _) (grow_c _)) (gr_cons (gr_v _) (gr_nil)))) (gr_cons (gr_tup (gr_cons (grow_bin g_sub (gr_v _) (grow_c _)) (gr_cons (grow_c _) (gr_nil)))) (gr_nil))))) (gs_ret (gr_tup (gr_cons (gr_v _) (gr_cons (gr_v _) (gr_cons (gr_gz (grow_bin g_add (gr_gz (grow_bin g_add (gr_gz (gr_lst (gr_cons (gr_tup (gr_cons (gr_v _) (gr_cons (gr_v _) (gr_nil)))) (gr_nil)))) (gr_v _))) (gr_v _))) (gr_nil)))))))))))
theorem gf_linked_under : ∀ m, GrC (f_linked_under m)
  | 0 => fun _ _ => trivial
  | m + 1 => grow_def (grow_linked_under (gf_linked_under m))
theorem ok_linked_under {f : Addr} {fd : FuncData} (T : Txt K mg cls) (R : RawFn K mg "linked_under" s_linked_under ["tree", "places", "place"] f fd) (A_plus : FnAt P w K mg base cls "plus" 3 (f_plus)) (A_minus : FnAt P w K mg base cls "minus" 3 (f_minus)) (A_over : FnAt P w K mg base cls "over" 3 (f_over)) : ∀ m, FnAt P w K mg base cls "linked_under" (3 + m + 1) (f_linked_under m)
  | 0 => fn_none R _
  | m + 1 => by
    have IH := ok_linked_under T R A_plus A_minus A_over m
    refine FnAt.mkE (en := gc) R sc_linked_under (end_gc T.su) (by decide) (gf_linked_under (m + 1)) fun cdv A outer s H E hr tk hp => ?_
    have nd := (sc_linked_under).nd
    have hu := hr.units
    exact rss_cons (rs_if (rt_cmp (o_in hu) g_in (re_v 2) (re_v 1) (by first | rfl | exact nomark _)) (rss_one (rs_ret (re_tup (ra_cons (re_ix (re_v 0) (re_int)) (ra_cons (re_int) (ra_cons (re_gz T.su (re_lst (ra_nil))) (ra_nil))))))) (rss_nil)) (rss_cons (rs_asg (re_fn IH tk (hr.mono (by omega)) (by rfl) (ra_cons (re_ix (re_v 0) (re_int)) (ra_cons (re_v 1) (ra_cons (re_bin o_add g_add (re_v 2) (re_str [121])) (ra_nil))))) (rg_t rfl (rgs_cons (rg_n 3 nd rfl (by first | exact Or.inl rfl | exact Or.inr rfl)) (rgs_cons (rg_n 4 nd rfl (by first | exact Or.inl rfl | exact Or.inr rfl)) (rgs_cons (rg_n 5 nd rfl (by first | exact Or.inl rfl | exact Or.inr rfl)) (rgs_nil)))))) (rss_cons (rs_asg (re_fn IH tk (hr.mono (by omega)) (by rfl) (ra_cons (re_ix (re_v 0) (re_int)) (ra_cons (re_v 1) (ra_cons (re_bin o_add g_add (re_v 2) (re_str [110])) (ra_nil))))) (rg_t rfl (rgs_cons (rg_n 6 nd rfl (by first | exact Or.inl rfl | exact Or.inr rfl)) (rgs_cons (rg_n 7 nd rfl (by first | exact Or.inl rfl | exact Or.inr rfl)) (rgs_cons (rg_n 8 nd rfl (by first | exact Or.inl rfl | exact Or.inr rfl)) (rgs_nil)))))) (rss_cons (rs_set 9 nd rfl (by first | exact Or.inl rfl | exact Or.inr rfl) (re_fn A_plus tk (hr.mono (by omega)) (by rfl) (ra_cons (re_v 3) (ra_cons (re_v 6) (ra_nil))))) (rss_cons (rs_set 10 nd rfl (by first | exact Or.inl rfl | exact Or.inr rfl) (re_bin o_add g_add (re_v 4) (re_v 7))) (rss_cons (rs_set 11 nd rfl (by first | exact Or.inl rfl | exact Or.inr rfl) (re_fn A_over tk (hr.mono (by omega)) (by rfl) (ra_cons (re_fn A_minus tk (hr.mono (by omega)) (by rfl) (ra_cons (re_ix (re_v 0) (re_int)) (ra_cons (re_v 9) (ra_nil)))) (ra_cons (re_tup (ra_cons (re_bin o_sub g_sub (re_v 10) (re_int)) (ra_cons (re_int) (ra_nil)))) (ra_nil))))) (rss_one (rs_ret (re_tup (ra_cons (re_v 9) (ra_cons (re_v 10) (ra_cons (re_gz T.su (re_bin o_add g_add (re_gz T.su (re_bin o_add g_add (re_gz T.su (re_lst (ra_cons (re_tup (ra_cons (re_v 2) (ra_cons (re_v 11) (ra_nil)))) (ra_nil)))) (re_v 8))) (re_v 5))) (ra_nil))))))))))))
theorem sc_all_links : FnScope ["tree", "places"] ["tree", "places"] (defScope s_all_links) := ⟨rfl, rfl, rfl, by decide +kernel, rfl, by decide +kernel, by decide +kernel⟩
theorem grow_all_links : GrowS b_all_links := gs_ret (grow_bin g_ix (grow_call (gf_linked_under _) (gr_cons (gr_v _) (gr_cons (gr_v _) (gr_cons (grow_c _) (gr_nil))))) (grow_c _))
theorem gf_all_links : GrC f_all_links := grow_def grow_all_links
theorem ok_all_links {f : Addr} {fd : FuncData} (T : Txt K mg cls) (R : RawFn K mg "all_links" s_all_links ["tree", "places"] f fd) (A_linked_under : FnAt P w K mg base cls "linked_under" 68 ((f_linked_under 64))) : FnAt P w K mg base cls "all_links" 69 f_all_links := by
  refine FnAt.mkE (en := gc) R sc_all_links (end_gc T.su) (by decide) gf_all_links fun cdv A outer s H E hr tk hp => ?_
  have nd := (sc_all_links).nd
  have hu := hr.units
  exact rss_one (rs_ret (re_ix (re_fn A_linked_under tk (hr.mono (by decide)) (by rfl) (ra_cons (re_v 0) (ra_cons (re_v 1) (ra_cons (re_str []) (ra_nil))))) (re_int)))
theorem sc_tops_of : FnScope ["places", "place", "top"] ["places", "place"] (defScope s_tops_of) := ⟨rfl, rfl, rfl, by decide +kernel, rfl, by decide +kernel, by decide +kernel⟩
theorem grow_tops_of : GrowS b_tops_of := gs_ret (gr_gz (grow_comp (gi_any (gr_v _)) (grow_val (gr_met gm_starts (gr_v _) (gr_cons (gr_v _) (gr_nil)))) (gr_v _)))
theorem gf_tops_of : GrC f_tops_of := grow_def grow_tops_of
theorem ok_tops_of {f : Addr} {fd : FuncData} (T : Txt K mg cls) (R : RawFn K mg "tops_of" s_tops_of ["places", "place"] f fd)  : FnAt P w K mg base cls "tops_of" 1 f_tops_of := by
  refine FnAt.mkE (en := gc) R sc_tops_of (end_gc T.su) (by decide) gf_tops_of fun cdv A outer s H E hr tk hp => ?_
  have nd := (sc_tops_of).nd
  have hu := hr.units
  exact rss_one (rs_ret (re_gz T.su (re_comp (own := [("top", 2)]) rfl nd (ri_any (re_v 0)) (blkOk_by (own := [("top", 2)]) (N := ["places", "place", "top"]) (sc := defScope s_tops_of) (by decide +kernel)) (fun _ _ _ _ _ => rg_n 2 nd rfl (by first | exact Or.inl rfl | exact Or.inr rfl)) (fun _ _ _ _ _ => rts_one (rt_val (re_met (k := .str) PySem.F.plainAttrs_str PySem.F.slot_str_startswith PySem.F.type_str_startswith m_starts gm_starts (re_v 1) (ra_cons (re_v 2) (ra_nil))))) (fun _ _ _ _ _ => re_v 2) (grow_val (gr_met gm_starts (gr_v _) (gr_cons (gr_v _) (gr_nil)))) (gr_v _) (by decide))))
theorem sc_cut : FnScope ["places", "places_of_forks", "kept", "outer", "place"] ["places", "places_of_forks"] (defScope s_cut) := ⟨rfl, rfl, rfl, by decide +kernel, rfl, by decide +kernel, by decide +kernel⟩
theorem grow_cut : GrowS b_cut := gs_seq (gs_asg (gr_gz (grow_comp (gi_any (gr_v _)) (grow_val (grow_bin g_eq (grow_call gc_len (gr_cons (grow_call gf_tops_of (gr_cons (gr_v _) (gr_cons (gr_v _) (gr_nil)))) (gr_nil))) (grow_c _))) (gr_v _)))) (gs_seq (gs_asg (gr_gz (grow_comp (gi_any (gr_v _)) (grow_val (grow_bin g_eq (grow_call gc_len (gr_cons (grow_call gf_tops_of (gr_cons (gr_v _) (gr_cons (gr_v _) (gr_nil)))) (gr_nil))) (grow_c _))) (gr_v _)))) (gs_ret (gr_gz (grow_call gc_sorted (gr_cons (gr_gz (grow_bin g_add (gr_v _) (gr_v _))) (gr_nil))))))
theorem gf_cut : GrC f_cut := grow_def grow_cut
theorem ok_cut {f : Addr} {fd : FuncData} (T : Txt K mg cls) (R : RawFn K mg "cut" s_cut ["places", "places_of_forks"] f fd) (A_tops_of : FnAt P w K mg base cls "tops_of" 1 (f_tops_of)) : FnAt P w K mg base cls "cut" 2 f_cut := by
  refine FnAt.mkE (en := gc) R sc_cut (end_gc T.su) (by decide) gf_cut fun cdv A outer s H E hr tk hp => ?_
  have nd := (sc_cut).nd
  have hu := hr.units
  exact rss_cons (rs_gzN T.su (rs_setComp (own := [("place", 4)]) 2 rfl nd rfl rfl (sw_true rfl rfl rfl (by decide +kernel)) (ri_any (re_v 0)) (blkOk_by (own := [("place", 4)]) (N := ["places", "places_of_forks", "kept", "outer", "place"]) (sc := defScope s_cut) (by decide +kernel)) (fun _ _ _ _ _ => rg_n 4 nd rfl (by first | exact Or.inl rfl | exact Or.inr rfl)) (fun _ _ _ _ _ => rts_one (rt_cmp (o_eq hu) g_eq (re_biB c_len gc_len (by rfl) T.n_len boot_len (ra_cons (re_fn A_tops_of takes0 (hr.mono (by decide)) (by rfl) (ra_cons (re_v 1) (ra_cons (re_v 4) (ra_nil)))) (ra_nil))) (re_int) (nomark _))) (fun _ _ _ _ _ => re_v 4) (grow_val (grow_bin g_eq (grow_call gc_len (gr_cons (grow_call gf_tops_of (gr_cons (gr_v _) (gr_cons (gr_v _) (gr_nil)))) (gr_nil))) (grow_c _))) (gr_v _) (by decide)) (grow_comp (gi_any (gr_v _)) (grow_val (grow_bin g_eq (grow_call gc_len (gr_cons (grow_call gf_tops_of (gr_cons (gr_v _) (gr_cons (gr_v _) (gr_nil)))) (gr_nil))) (grow_c _))) (gr_v _))) (rss_cons (rs_gzN T.su (rs_setComp (own := [("place", 4)]) 3 rfl nd rfl rfl (sw_true rfl rfl rfl (by decide +kernel)) (ri_any (re_v 1)) (blkOk_by (own := [("place", 4)]) (N := ["places", "places_of_forks", "kept", "outer", "place"]) (sc := defScope s_cut) (by decide +kernel)) (fun _ _ _ _ _ => rg_n 4 nd rfl (by first | exact Or.inl rfl | exact Or.inr rfl)) (fun _ _ _ _ _ => rts_one (rt_cmp (o_eq hu) g_eq (re_biB c_len gc_len (by rfl) T.n_len boot_len (ra_cons (re_fn A_tops_of takes0 (hr.mono (by decide)) (by rfl) (ra_cons (re_v 1) (ra_cons (re_v 4) (ra_nil)))) (ra_nil))) (re_int) (nomark _))) (fun _ _ _ _ _ => re_v 4) (grow_val (grow_bin g_eq (grow_call gc_len (gr_cons (grow_call gf_tops_of (gr_cons (gr_v _) (gr_cons (gr_v _) (gr_nil)))) (gr_nil))) (grow_c _))) (gr_v _) (by decide)) (grow_comp (gi_any (gr_v _)) (grow_val (grow_bin g_eq (grow_call gc_len (gr_cons (grow_call gf_tops_of (gr_cons (gr_v _) (gr_cons (gr_v _) (gr_nil)))) (gr_nil))) (grow_c _))) (gr_v _))) (rss_one (rs_ret (re_gz T.su (re_biB (c_sorted rfl) gc_sorted (by rfl) T.n_sorted boot_sorted (ra_cons (re_gz T.su (re_bin o_add g_add (re_v 2) (re_v 3))) (ra_nil)))))))
theorem sc_least_link : FnScope ["linked", "least", "place", "own"] ["linked"] (defScope s_least_link) := ⟨rfl, rfl, rfl, by decide +kernel, rfl, by decide +kernel, by decide +kernel⟩
theorem gl_L1_least_link : GrowS L1_least_link := gs_if (grow_val (grow_call gf_under (gr_cons (gr_v _) (gr_cons (gr_v _) (gr_nil))))) (gs_asg (gr_v _)) (gs_nx)
theorem grow_least_link : GrowS b_least_link := gs_seq (gs_asg (grow_bin g_ix (grow_bin g_ix (gr_v _) (grow_c _)) (grow_c _))) (gs_seq (gs_for (gi_any (gr_v _)) (gl_L1_least_link)) (gs_ret (gr_v _)))
theorem gf_least_link : GrC f_least_link := grow_def grow_least_link
theorem ok_least_link {f : Addr} {fd : FuncData} (T : Txt K mg cls) (R : RawFn K mg "least_link" s_least_link ["linked"] f fd) (A_under : FnAt P w K mg base cls "under" 1 (f_under)) : FnAt P w K mg base cls "least_link" 2 f_least_link := by
  refine FnAt.mkE (en := gc) R sc_least_link (end_gc T.su) (by decide) gf_least_link fun cdv A outer s H E hr tk hp => ?_
  have nd := (sc_least_link).nd
  have hu := hr.units
  exact rss_cons (rs_set 1 nd rfl (by first | exact Or.inl rfl | exact Or.inr rfl) (re_ix (re_ix (re_v 0) (re_int)) (re_int))) (rss_cons (rs_for hp rfl (ri_any (re_v 0)) (rg_t rfl (rgs_cons (rg_n 2 nd rfl (by first | exact Or.inl rfl | exact Or.inr rfl)) (rgs_cons (rg_n 3 nd rfl (by first | exact Or.inl rfl | exact Or.inr rfl)) (rgs_nil)))) (rss_one (rs_if (rt_val (re_fn A_under tk (hr.mono (by decide)) (by rfl) (ra_cons (re_v 3) (ra_cons (re_v 1) (ra_nil))))) (rss_one (rs_set 1 nd rfl (by first | exact Or.inl rfl | exact Or.inr rfl) (re_v 3))) (rss_nil)))) (rss_one (rs_ret (re_v 1))))
theorem sc_path : FnScope ["tree", "price", "places", "steps", "linked", "place", "own"] ["tree"] (defScope s_path) := ⟨rfl, rfl, rfl, by decide +kernel, rfl, by decide +kernel, by decide +kernel⟩
theorem gl_L1_path : GrowS L1_path := gs_seq (gs_asg (grow_call gf_all_links (gr_cons (gr_v _) (gr_cons (gr_v _) (gr_nil))))) (gs_seq (gs_asg (grow_call gf_least_link (gr_cons (gr_v _) (gr_nil)))) (gs_seq (gs_asg (grow_call gf_cut (gr_cons (gr_v _) (gr_cons (gr_gz (grow_comp (gi_any (gr_v _)) (grow_val (grow_bin g_eq (gr_v _) (gr_v _))) (gr_v _))) (gr_nil))))) (gs_exp (gr_met gm_append (gr_v _) (gr_cons (gr_tup (gr_cons (gr_v _) (gr_cons (gr_v _) (gr_nil)))) (gr_nil))))))
theorem grow_path : GrowS b_path := gs_seq (gs_asg (gr_tup (gr_cons (grow_c _) (gr_cons (grow_c _) (gr_nil))))) (gs_seq (gs_asg (grow_call gf_cheapest (gr_cons (gr_v _) (gr_cons (gr_v _) (gr_nil))))) (gs_seq (gs_asg (gr_lst (gr_cons (gr_tup (gr_cons (gr_v _) (gr_cons (gr_v _) (gr_nil)))) (gr_nil)))) (gs_seq (gs_while (grow_val (grow_bin g_ne (gr_v _) (gr_gz (gr_lst (gr_cons (grow_c _) (gr_nil)))))) (gl_L1_path)) (gs_ret (gr_v _)))))
theorem gf_path : GrC f_path := grow_def grow_path
theorem ok_path {f : Addr} {fd : FuncData} (T : Txt K mg cls) (R : RawFn K mg "path" s_path ["tree"] f fd) (A_cheapest : FnAt P w K mg base cls "cheapest" 69 (f_cheapest)) (A_all_links : FnAt P w K mg base cls "all_links" 69 (f_all_links)) (A_cut : FnAt P w K mg base cls "cut" 2 (f_cut)) (A_least_link : FnAt P w K mg base cls "least_link" 2 (f_least_link)) : FnAt P w K mg base cls "path" 70 f_path := by
  refine FnAt.mkE (en := gc) R sc_path (end_gc T.su) (by decide) gf_path fun cdv A outer s H E hr tk hp => ?_
  have nd := (sc_path).nd
  have hu := hr.units
  exact rss_cons (rs_set 1 nd rfl (by first | exact Or.inl rfl | exact Or.inr rfl) (re_tup (ra_cons (re_int) (ra_cons (re_int) (ra_nil))))) (rss_cons (rs_set 2 nd rfl (by first | exact Or.inl rfl | exact Or.inr rfl) (re_fn A_cheapest tk (hr.mono (by decide)) (by rfl) (ra_cons (re_v 0) (ra_cons (re_v 1) (ra_nil))))) (rss_cons (rs_set 3 nd rfl (by first | exact Or.inl rfl | exact Or.inr rfl) (re_lst (ra_cons (re_tup (ra_cons (re_v 1) (ra_cons (re_v 2) (ra_nil)))) (ra_nil)))) (rss_cons (rs_while hp (rt_cmp (o_ne hu) g_ne (re_v 2) (re_gz T.su (re_lst (ra_cons (re_str []) (ra_nil)))) (nomark _)) (rss_cons (rs_set 4 nd rfl (by first | exact Or.inl rfl | exact Or.inr rfl) (re_fn A_all_links tk (hr.mono (by decide)) (by rfl) (ra_cons (re_v 0) (ra_cons (re_v 2) (ra_nil))))) (rss_cons (rs_set 1 nd rfl (by first | exact Or.inl rfl | exact Or.inr rfl) (re_fn A_least_link tk (hr.mono (by decide)) (by rfl) (ra_cons (re_v 4) (ra_nil)))) (rss_cons (rs_set 2 nd rfl (by first | exact Or.inl rfl | exact Or.inr rfl) (re_fn A_cut tk (hr.mono (by decide)) (by rfl) (ra_cons (re_v 2) (ra_cons (re_gz T.su (re_comp (own := [("place", 5), ("own", 6)]) rfl nd (ri_any (re_v 4)) (blkOk_by (own := [("place", 5), ("own", 6)]) (N := ["tree", "price", "places", "steps", "linked", "place", "own"]) (sc := defScope s_path) (by decide +kernel)) (fun _ _ _ _ _ => rg_t rfl (rgs_cons (rg_n 5 nd rfl (by first | exact Or.inl rfl | exact Or.inr rfl)) (rgs_cons (rg_n 6 nd rfl (by first | exact Or.inl rfl | exact Or.inr rfl)) (rgs_nil)))) (fun _ _ _ _ _ => rts_one (rt_cmp (o_eq hu) g_eq (re_v 6) (re_v 1) (nomark _))) (fun _ _ _ _ _ => re_v 5) (grow_val (grow_bin g_eq (gr_v _) (gr_v _))) (gr_v _) (by decide))) (ra_nil))))) (rss_one (rs_exp (re_met (k := .lst) PySem.F.plainAttrs_list PySem.F.slot_list_append PySem.F.type_list_append m_append gm_append (re_v 3) (ra_cons (re_tup (ra_cons (re_v 1) (ra_cons (re_v 2) (ra_nil)))) (ra_nil))))))))) (rss_one (rs_ret (re_v 3))))))
theorem sc_for_price : FnScope ["steps", "price", "found", "start", "places"] ["steps", "price"] (defScope s_for_price) := ⟨rfl, rfl, rfl, by decide +kernel, rfl, by decide +kernel, by decide +kernel⟩
theorem gl_L1_for_price : GrowS L1_for_price := gs_seq (gs_if (grow_val (grow_call gf_under (gr_cons (gr_v _) (gr_cons (gr_v _) (gr_nil))))) (gs_brk) (gs_nx)) (gs_asg (gr_v _))
theorem grow_for_price : GrowS b_for_price := gs_seq (gs_if (grow_val (grow_bin g_lt (grow_bin g_ix (gr_v _) (grow_c _)) (grow_c _))) (gs_raiseF _ _ (gr_v _)) (gs_nx)) (gs_seq (gs_asg (grow_bin g_ix (grow_bin g_ix (gr_v _) (grow_c _)) (grow_c _))) (gs_seq (gs_for (gi_any (gr_v _)) (gl_L1_for_price)) (gs_ret (gr_gz (grow_call gc_list (gr_cons (gr_v _) (gr_nil)))))))
theorem gf_for_price : GrC f_for_price := grow_def grow_for_price
theorem ok_for_price {f : Addr} {fd : FuncData} (T : Txt K mg cls) (R : RawFn K mg "for_price" s_for_price ["steps", "price"] f fd) (A_under : FnAt P w K mg base cls "under" 1 (f_under)) (I_NoPrice : ExI P w K mg base (cls 2) "NoPrice" "price") : FnAt P w K mg base cls "for_price" 3 f_for_price := by
  refine FnAt.mkE (en := gc) R sc_for_price (end_gc T.su) (by decide) gf_for_price fun cdv A outer s H E hr tk hp => ?_
  have nd := (sc_for_price).nd
  have hu := hr.units
  exact rss_cons (rs_if (rt_cmp o_lt g_lt (re_ix (re_v 1) (re_int)) (re_int) (nomark _)) (rss_one (rs_raiseF 2 [112, 114, 105, 99, 101] rfl tk I_NoPrice rfl (hr.mono (by decide)) (by rfl) (re_v 1))) (rss_nil)) (rss_cons (rs_set 2 nd rfl (by first | exact Or.inl rfl | exact Or.inr rfl) (re_ix (re_ix (re_v 0) (re_int)) (re_int))) (rss_cons (rs_for hp rfl (ri_any (re_v 0)) (rg_t rfl (rgs_cons (rg_n 3 nd rfl (by first | exact Or.inl rfl | exact Or.inr rfl)) (rgs_cons (rg_n 4 nd rfl (by first | exact Or.inl rfl | exact Or.inr rfl)) (rgs_nil)))) (rss_cons (rs_if (rt_val (re_fn A_under tk (hr.mono (by decide)) (by rfl) (ra_cons (re_v 1) (ra_cons (re_v 3) (ra_nil))))) (rss_one (rs_brk)) (rss_nil)) (rss_one (rs_set 2 nd rfl (by first | exact Or.inl rfl | exact Or.inr rfl) (re_v 4))))) (rss_one (rs_ret (re_gz T.su (re_biT c_list gc_list (by rfl) T.n_list boot_list (ra_cons (re_v 2) (ra_nil))))))))
theorem sc__law_cell : FnScope ["_law_script", "_law_k"] ["_law_script", "_law_k"] (defScope s__law_cell) := ⟨rfl, rfl, rfl, by decide +kernel, rfl, by decide +kernel, by decide +kernel⟩
theorem grow__law_cell : GrowS b__law_cell := gs_seq (gs_if (grow_val (grow_bin g_lt (gr_v _) (grow_call gc_len (gr_cons (gr_v _) (gr_nil))))) (gs_ret (grow_bin g_ix (gr_v _) (gr_v _))) (gs_nx)) (gs_ret (grow_c _))
theorem gf__law_cell : GrC f__law_cell := grow_def grow__law_cell
theorem ok__law_cell {f : Addr} {fd : FuncData} (T : Txt K mg cls) (R : RawFn K mg "_law_cell" s__law_cell ["_law_script", "_law_k"] f fd)  : FnAt P w K mg base cls "_law_cell" 1 f__law_cell := by
  refine FnAt.mkE (en := gc) R sc__law_cell (end_gc T.su) (by decide) gf__law_cell fun cdv A outer s H E hr tk hp => ?_
  have nd := (sc__law_cell).nd
  have hu := hr.units
  exact rss_cons (rs_if (rt_cmp o_lt g_lt (re_v 1) (re_biB c_len gc_len (by rfl) T.n_len boot_len (ra_cons (re_v 0) (ra_nil))) (nomark _)) (rss_one (rs_ret (re_ix (re_v 0) (re_v 1)))) (rss_nil)) (rss_one (rs_ret (re_int)))
theorem sc__law_next : FnScope ["_law_cell_here", "_law_k"] ["_law_cell_here", "_law_k"] (defScope s__law_next) := ⟨rfl, rfl, rfl, by decide +kernel, rfl, by decide +kernel, by decide +kernel⟩
theorem grow__law_next : GrowS b__law_next := gs_ret (grow_bin g_mod (grow_bin g_add (grow_bin g_add (grow_bin g_mul (gr_v _) (grow_bin g_add (grow_c _) (grow_bin g_mul (grow_c _) (gr_v _)))) (grow_c _)) (gr_v _)) (grow_c _))
theorem gf__law_next : GrC f__law_next := grow_def grow__law_next
theorem ok__law_next {f : Addr} {fd : FuncData} (T : Txt K mg cls) (R : RawFn K mg "_law_next" s__law_next ["_law_cell_here", "_law_k"] f fd)  : FnAt P w K mg base cls "_law_next" 1 f__law_next := by
  refine FnAt.mkE (en := gc) R sc__law_next (end_gc T.su) (by decide) gf__law_next fun cdv A outer s H E hr tk hp => ?_
  have nd := (sc__law_next).nd
  have hu := hr.units
  exact rss_one (rs_ret (re_bin o_mod g_mod (re_bin o_add g_add (re_bin o_add g_add (re_bin o_mul g_mul (re_v 0) (re_bin o_add g_add (re_int) (re_bin o_mul g_mul (re_int) (re_v 1)))) (re_int)) (re_v 1)) (re_int)))
theorem sc__law_ratio : FnScope ["_law_top", "_law_bottom", "_law_one", "_law_other", "_law_rest"] ["_law_top", "_law_bottom"] (defScope s__law_ratio) := ⟨rfl, rfl, rfl, by decide +kernel, rfl, by decide +kernel, by decide +kernel⟩
theorem gl_L1__law_ratio : GrowS L1__law_ratio := gs_seq (gs_asg (grow_bin g_mod (gr_v _) (gr_v _))) (gs_seq (gs_asg (gr_v _)) (gs_asg (gr_v _)))
theorem grow__law_ratio : GrowS b__law_ratio := gs_seq (gs_asg (grow_call gc_abs (gr_cons (gr_v _) (gr_nil)))) (gs_seq (gs_asg (gr_v _)) (gs_seq (gs_while (grow_val (grow_bin g_gt (gr_v _) (grow_c _))) (gl_L1__law_ratio)) (gs_ret (gr_tup (gr_cons (grow_bin g_div (gr_v _) (gr_v _)) (gr_cons (grow_bin g_div (gr_v _) (gr_v _)) (gr_nil)))))))
theorem gf__law_ratio : GrC f__law_ratio := grow_def grow__law_ratio
theorem ok__law_ratio {f : Addr} {fd : FuncData} (T : Txt K mg cls) (R : RawFn K mg "_law_ratio" s__law_ratio ["_law_top", "_law_bottom"] f fd)  : FnAt P w K mg base cls "_law_ratio" 1 f__law_ratio := by
  refine FnAt.mkE (en := gc) R sc__law_ratio (end_gc T.su) (by decide) gf__law_ratio fun cdv A outer s H E hr tk hp => ?_
  have nd := (sc__law_ratio).nd
  have hu := hr.units
  exact rss_cons (rs_set 2 nd rfl (by first | exact Or.inl rfl | exact Or.inr rfl) (re_biB c_abs gc_abs (by rfl) T.n_abs boot_abs (ra_cons (re_v 0) (ra_nil)))) (rss_cons (rs_set 3 nd rfl (by first | exact Or.inl rfl | exact Or.inr rfl) (re_v 1)) (rss_cons (rs_while hp (rt_cmp o_gt g_gt (re_v 3) (re_int) (nomark _)) (rss_cons (rs_set 4 nd rfl (by first | exact Or.inl rfl | exact Or.inr rfl) (re_bin o_mod g_mod (re_v 2) (re_v 3))) (rss_cons (rs_set 2 nd rfl (by first | exact Or.inl rfl | exact Or.inr rfl) (re_v 3)) (rss_one (rs_set 3 nd rfl (by first | exact Or.inl rfl | exact Or.inr rfl) (re_v 4)))))) (rss_one (rs_ret (re_tup (ra_cons (re_bin o_div g_div (re_v 0) (re_v 2)) (ra_cons (re_bin o_div g_div (re_v 1) (re_v 2)) (ra_nil))))))))
theorem sc__law_joined : FnScope ["_law_pile", "_law_gain", "_law_far", "_law_near"] ["_law_pile", "_law_gain"] (defScope s__law_joined) := ⟨rfl, rfl, rfl, by decide +kernel, rfl, by decide +kernel, by decide +kernel⟩
theorem grow__law_joined : GrowS b__law_joined := gs_seq (gs_asg (grow_bin g_ix (gr_v _) (grow_un g_neg (grow_c _)))) (gs_seq (gs_asg (grow_bin g_ix (gr_v _) (grow_un g_neg (grow_c _)))) (gs_ret (grow_bin g_add (gr_gz (gr_sl (gr_v _) (gr_pno) (gr_pat (grow_un g_neg (grow_c _))))) (gr_gz (gr_lst (gr_cons (gr_tup (gr_cons (grow_c _) (gr_cons (grow_bin g_add (grow_bin g_add (grow_bin g_ix (gr_v _) (grow_c _)) (grow_bin g_ix (gr_v _) (grow_c _))) (gr_v _)) (gr_cons (gr_v _) (gr_cons (gr_v _) (gr_nil)))))) (gr_nil)))))))
theorem gf__law_joined : GrC f__law_joined := grow_defL grow__law_joined
theorem ok__law_joined {f : Addr} {fd : FuncData} (T : Txt K mg cls) (R : RawFn K mg "_law_joined" s__law_joined ["_law_pile", "_law_gain"] f fd)  : FnAt P w K mg base cls "_law_joined" 1 f__law_joined := by
  refine FnAt.mkE (en := gcL) R sc__law_joined (end_gcL T.su) (by decide) gf__law_joined fun cdv A outer s H E hr tk hp => ?_
  have nd := (sc__law_joined).nd
  have hu := hr.units
  exact rss_cons (rs_set 2 nd rfl (by first | exact Or.inl rfl | exact Or.inr rfl) (re_ix (re_v 0) (re_un o_neg g_neg (re_int)))) (rss_cons (rs_set 3 nd rfl (by first | exact Or.inl rfl | exact Or.inr rfl) (re_ix (re_v 0) (re_un o_neg g_neg (re_int)))) (rss_one (rs_ret (re_bin o_add g_add (re_gz T.su (re_sl (re_v 0) (rp_no) (rp_at (re_un o_neg g_neg (re_int))))) (re_gz T.su (re_lst (ra_cons (re_tup (ra_cons (re_str [102, 111, 114, 107]) (ra_cons (re_bin o_add g_add (re_bin o_add g_add (re_ix (re_v 3) (re_int)) (re_ix (re_v 2) (re_int))) (re_v 1)) (ra_cons (re_v 3) (ra_cons (re_v 2) (ra_nil)))))) (ra_nil))))))))
theorem sc__law_tree : FnScope ["_law_cells", "_law_scale", "_law_pile", "_law_cell_here"] ["_law_cells", "_law_scale"] (defScope s__law_tree) := ⟨rfl, rfl, rfl, by decide +kernel, rfl, by decide +kernel, by decide +kernel⟩
theorem gl_L1__law_tree : GrowS L1__law_tree := gs_if (gr_tor (grow_val (grow_bin g_lt (grow_bin g_mod (gr_v _) (grow_c _)) (grow_c _))) (grow_val (grow_bin g_lt (grow_call gc_len (gr_cons (gr_v _) (gr_nil))) (grow_c _)))) (gs_exp (gr_met gm_append (gr_v _) (gr_cons (gr_tup (gr_cons (grow_c _) (gr_cons (grow_bin g_mul (grow_bin g_sub (grow_bin g_mod (grow_bin g_div (gr_v _) (grow_c _)) (grow_c _)) (grow_c _)) (gr_v _)) (gr_nil)))) (gr_nil)))) (gs_asg (grow_call gf__law_joined (gr_cons (gr_v _) (gr_cons (grow_bin g_mul (grow_bin g_sub (grow_bin g_mod (grow_bin g_div (gr_v _) (grow_c _)) (grow_c _)) (grow_c _)) (gr_v _)) (gr_nil)))))
theorem gl_L2__law_tree : GrowS L2__law_tree := gs_asg (grow_call gf__law_joined (gr_cons (gr_v _) (gr_cons (grow_bin g_mul (grow_call gc_len (gr_cons (gr_v _) (gr_nil))) (gr_v _)) (gr_nil))))
theorem grow__law_tree : GrowS b__law_tree := gs_seq (gs_asg (gr_lst (gr_nil))) (gs_seq (gs_for (gi_any (gr_v _)) (gl_L1__law_tree)) (gs_seq (gs_if (grow_val (grow_bin g_eq (grow_call gc_len (gr_cons (gr_v _) (gr_nil))) (grow_c _))) (gs_exp (gr_met gm_append (gr_v _) (gr_cons (gr_tup (gr_cons (grow_c _) (gr_cons (gr_v _) (gr_nil)))) (gr_nil)))) (gs_nx)) (gs_seq (gs_while (grow_val (grow_bin g_gt (grow_call gc_len (gr_cons (gr_v _) (gr_nil))) (grow_c _))) (gl_L2__law_tree)) (gs_seq (gs_if (gr_tand (grow_val (grow_chain g_lt g_lt (grow_c _) (grow_call gc_len (gr_cons (gr_v _) (gr_nil))) (grow_c _))) (grow_val (grow_bin g_eq (grow_bin g_mod (grow_bin g_ix (gr_v _) (grow_c _)) (grow_c _)) (grow_c _)))) (gs_asg (grow_call gf__law_joined (gr_cons (gr_gz (gr_lst (gr_cons (grow_bin g_ix (gr_v _) (grow_c _)) (gr_cons (grow_bin g_ix (gr_v _) (grow_c _)) (gr_nil))))) (gr_cons (grow_bin g_mul (grow_bin g_mod (grow_bin g_div (grow_bin g_ix (gr_v _) (grow_c _)) (grow_c _)) (grow_c _)) (gr_v _)) (gr_nil))))) (gs_nx)) (gs_ret (grow_bin g_ix (gr_v _) (grow_c _)))))))
theorem gf__law_tree : GrC f__law_tree := grow_def grow__law_tree
theorem ok__law_tree {f : Addr} {fd : FuncData} (T : Txt K mg cls) (R : RawFn K mg "_law_tree" s__law_tree ["_law_cells", "_law_scale"] f fd) (A__law_joined : FnAt P w K mg base cls "_law_joined" 1 (f__law_joined)) : FnAt P w K mg base cls "_law_tree" 2 f__law_tree := by
  refine FnAt.mkE (en := gc) R sc__law_tree (end_gc T.su) (by decide) gf__law_tree fun cdv A outer s H E hr tk hp => ?_
  have nd := (sc__law_tree).nd
  have hu := hr.units
  exact rss_cons (rs_set 2 nd rfl (by first | exact Or.inl rfl | exact Or.inr rfl) (re_lst (ra_nil))) (rss_cons (rs_for hp rfl (ri_any (re_v 0)) (rg_n 3 nd rfl (by first | exact Or.inl rfl | exact Or.inr rfl)) (rss_one (rs_if (rt_w (rw_or (rt_cmp o_lt g_lt (re_bin o_mod g_mod (re_v 3) (re_int)) (re_int) (nomark _)) (rw_or1 (rt_cmp o_lt g_lt (re_biB c_len gc_len (by rfl) T.n_len boot_len (ra_cons (re_v 2) (ra_nil))) (re_int) (nomark _))))) (rss_one (rs_exp (re_met (k := .lst) PySem.F.plainAttrs_list PySem.F.slot_list_append PySem.F.type_list_append m_append gm_append (re_v 2) (ra_cons (re_tup (ra_cons (re_str [101, 110, 100]) (ra_cons (re_bin o_mul g_mul (re_bin o_sub g_sub (re_bin o_mod g_mod (re_bin o_div g_div (re_v 3) (re_int)) (re_int)) (re_int)) (re_v 1)) (ra_nil)))) (ra_nil))))) (rss_one (rs_set 2 nd rfl (by first | exact Or.inl rfl | exact Or.inr rfl) (re_fn A__law_joined tk (hr.mono (by decide)) (by rfl) (ra_cons (re_v 2) (ra_cons (re_bin o_mul g_mul (re_bin o_sub g_sub (re_bin o_mod g_mod (re_bin o_div g_div (re_v 3) (re_int)) (re_int)) (re_int)) (re_v 1)) (ra_nil))))))))) (rss_cons (rs_if (rt_cmp (o_eq hu) g_eq (re_biB c_len gc_len (by rfl) T.n_len boot_len (ra_cons (re_v 2) (ra_nil))) (re_int) (nomark _)) (rss_one (rs_exp (re_met (k := .lst) PySem.F.plainAttrs_list PySem.F.slot_list_append PySem.F.type_list_append m_append gm_append (re_v 2) (ra_cons (re_tup (ra_cons (re_str [101, 110, 100]) (ra_cons (re_v 1) (ra_nil)))) (ra_nil))))) (rss_nil)) (rss_cons (rs_while hp (rt_cmp o_gt g_gt (re_biB c_len gc_len (by rfl) T.n_len boot_len (ra_cons (re_v 2) (ra_nil))) (re_int) (nomark _)) (rss_one (rs_set 2 nd rfl (by first | exact Or.inl rfl | exact Or.inr rfl) (re_fn A__law_joined tk (hr.mono (by decide)) (by rfl) (ra_cons (re_v 2) (ra_cons (re_bin o_mul g_mul (re_biB c_len gc_len (by rfl) T.n_len boot_len (ra_cons (re_v 2) (ra_nil))) (re_v 1)) (ra_nil))))))) (rss_cons (rs_if (rt_w (rw_and (rt_chain o_lt g_lt o_lt g_lt (re_int) (re_biB c_len gc_len (by rfl) T.n_len boot_len (ra_cons (re_v 0) (ra_nil))) (re_int)) (rw_and1 (rt_cmp (o_eq hu) g_eq (re_bin o_mod g_mod (re_ix (re_v 0) (re_int)) (re_int)) (re_int) (nomark _))))) (rss_one (rs_set 2 nd rfl (by first | exact Or.inl rfl | exact Or.inr rfl) (re_fn A__law_joined tk (hr.mono (by decide)) (by rfl) (ra_cons (re_gz T.su (re_lst (ra_cons (re_ix (re_v 2) (re_int)) (ra_cons (re_ix (re_v 2) (re_int)) (ra_nil))))) (ra_cons (re_bin o_mul g_mul (re_bin o_mod g_mod (re_bin o_div g_div (re_ix (re_v 0) (re_int)) (re_int)) (re_int)) (re_v 1)) (ra_nil)))))) (rss_nil)) (rss_one (rs_ret (re_ix (re_v 2) (re_int))))))))
theorem sc__law_digit : FnScope ["_law_bag", "_law_many", "_law_found"] ["_law_bag", "_law_many"] (defScope s__law_digit) := ⟨rfl, rfl, rfl, by decide +kernel, rfl, by decide +kernel, by decide +kernel⟩
theorem grow__law_digit : GrowS b__law_digit := gs_seq (gs_if (grow_val (grow_bin g_eq (grow_bin g_ix (gr_v _) (grow_c _)) (grow_c _))) (gs_seq (gs_asg (grow_bin g_mod (grow_bin g_ix (gr_v _) (grow_c _)) (gr_v _))) (gs_seq (gs_sub (grow_bin g_div (grow_bin g_ix (gr_v _) (grow_c _)) (gr_v _)) (gr_v _) (grow_c _)) (gs_ret (gr_v _)))) (gs_nx)) (gs_seq (gs_sub (grow_bin g_mod (grow_bin g_add (grow_bin g_mul (grow_bin g_ix (gr_v _) (grow_c _)) (grow_c _)) (grow_c _)) (grow_c _)) (gr_v _) (grow_c _)) (gs_ret (grow_bin g_mod (grow_bin g_div (grow_bin g_mod (grow_bin g_mul (grow_bin g_ix (gr_v _) (grow_c _)) (grow_c _)) (grow_c _)) (grow_c _)) (gr_v _))))
theorem gf__law_digit : GrC f__law_digit := grow_def grow__law_digit
theorem ok__law_digit {f : Addr} {fd : FuncData} (T : Txt K mg cls) (R : RawFn K mg "_law_digit" s__law_digit ["_law_bag", "_law_many"] f fd)  : FnAt P w K mg base cls "_law_digit" 1 f__law_digit := by
  refine FnAt.mkE (en := gc) R sc__law_digit (end_gc T.su) (by decide) gf__law_digit fun cdv A outer s H E hr tk hp => ?_
  have nd := (sc__law_digit).nd
  have hu := hr.units
  exact rss_cons (rs_if (rt_cmp (o_eq hu) g_eq (re_ix (re_v 0) (re_int)) (re_int) (nomark _)) (rss_cons (rs_set 2 nd rfl (by first | exact Or.inl rfl | exact Or.inr rfl) (re_bin o_mod g_mod (re_ix (re_v 0) (re_int)) (re_v 1))) (rss_cons (rs_sub hu (re_bin o_div g_div (re_ix (re_v 0) (re_int)) (re_v 1)) (re_v 0) (re_int)) (rss_one (rs_ret (re_v 2))))) (rss_nil)) (rss_cons (rs_sub hu (re_bin o_mod g_mod (re_bin o_add g_add (re_bin o_mul g_mul (re_ix (re_v 0) (re_int)) (re_int)) (re_int)) (re_int)) (re_v 0) (re_int)) (rss_one (rs_ret (re_bin o_mod g_mod (re_bin o_div g_div (re_bin o_mod g_mod (re_bin o_mul g_mul (re_ix (re_v 0) (re_int)) (re_int)) (re_int)) (re_int)) (re_v 1)))))
theorem sc__law_grown : FnScope ["_law_bag", "_law_left", "_law_scale", "_law_near", "_law_far"] ["_law_bag", "_law_left", "_law_scale"] (defScope s__law_grown) := ⟨rfl, rfl, rfl, by decide +kernel, rfl, by decide +kernel, by decide +kernel⟩
theorem grow__law_grown {rec : Fn} (gr0 : GrC rec) : GrowS (b__law_grown rec) := gs_seq (gs_if (gr_tor (grow_val (grow_bin g_eq (grow_bin g_ix (gr_v _) (grow_c _)) (grow_c _))) (grow_val (grow_bin g_lt (grow_call gf__law_digit (gr_cons (gr_v _) (gr_cons (grow_c _) (gr_nil)))) (grow_c _)))) (gs_ret (gr_tup (gr_cons (grow_c _) (gr_cons (grow_bin g_mul (grow_bin g_sub (grow_call gf__law_digit (gr_cons (gr_v _) (gr_cons (grow_c _) (gr_nil)))) (grow_c _)) (gr_v _)) (gr_nil))))) (gs_nx)) (gs_seq (gs_augX g_sub (gr_v _) (grow_c _) (grow_c _)) (gs_seq (gs_asg (grow_call gr0 (gr_cons (gr_v _) (gr_cons (gr_v _) (gr_cons (gr_v _) (gr_nil)))))) (gs_seq (gs_asg (grow_call gr0 (gr_cons (gr_v _) (gr_cons (gr_v _) (gr_cons (gr_v _) (gr_nil)))))) (gs_ret (gr_tup (gr_cons (grow_c _) (gr_cons (grow_bin g_add (grow_bin g_add (grow_bin g_ix (gr_v _) (grow_c _)) (grow_bin g_ix (gr_v _) (grow_c _))) (grow_bin g_mul (grow_bin g_sub (grow_call gf__law_digit (gr_cons (gr_v _) (gr_cons (grow_c _) (gr_nil)))) (grow_c _)) (gr_v _))) (gr_cons (gr_v _) (gr_cons (gr_v _) (gr_nil))))))))))
theorem gf__law_grown : ∀ m, GrC (f__law_grown m)
  | 0 => fun _ _ => trivial
  | m + 1 => grow_def (grow__law_grown (gf__law_grown m))
theorem ok__law_grown {f : Addr} {fd : FuncData} (T : Txt K mg cls) (R : RawFn K mg "_law_grown" s__law_grown ["_law_bag", "_law_left", "_law_scale"] f fd) (A__law_digit : FnAt P w K mg base cls "_law_digit" 1 (f__law_digit)) : ∀ m, FnAt P w K mg base cls "_law_grown" (1 + m + 1) (f__law_grown m)
  | 0 => fn_none R _
  | m + 1 => by
    have IH := ok__law_grown T R A__law_digit m
    refine FnAt.mkE (en := gc) R sc__law_grown (end_gc T.su) (by decide) (gf__law_grown (m + 1)) fun cdv A outer s H E hr tk hp => ?_
    have nd := (sc__law_grown).nd
    have hu := hr.units
    exact rss_cons (rs_if (rt_w (rw_or (rt_cmp (o_eq hu) g_eq (re_ix (re_v 1) (re_int)) (re_int) (nomark _)) (rw_or1 (rt_cmp o_lt g_lt (re_fn A__law_digit tk (hr.mono (by omega)) (by rfl) (ra_cons (re_v 0) (ra_cons (re_int) (ra_nil)))) (re_int) (nomark _))))) (rss_one (rs_ret (re_tup (ra_cons (re_str [101, 110, 100]) (ra_cons (re_bin o_mul g_mul (re_bin o_sub g_sub (re_fn A__law_digit tk (hr.mono (by omega)) (by rfl) (ra_cons (re_v 0) (ra_cons (re_int) (ra_nil)))) (re_int)) (re_v 2)) (ra_nil)))))) (rss_nil)) (rss_cons (rs_augX hu (re_v 1) (re_int) (re_int) ip_sub g_sub subI_or) (rss_cons (rs_set 3 nd rfl (by first | exact Or.inl rfl | exact Or.inr rfl) (re_fn IH tk (hr.mono (by omega)) (by rfl) (ra_cons (re_v 0) (ra_cons (re_v 1) (ra_cons (re_v 2) (ra_nil)))))) (rss_cons (rs_set 4 nd rfl (by first | exact Or.inl rfl | exact Or.inr rfl) (re_fn IH tk (hr.mono (by omega)) (by rfl) (ra_cons (re_v 0) (ra_cons (re_v 1) (ra_cons (re_v 2) (ra_nil)))))) (rss_one (rs_ret (re_tup (ra_cons (re_str [102, 111, 114, 107]) (ra_cons (re_bin o_add g_add (re_bin o_add g_add (re_ix (re_v 3) (re_int)) (re_ix (re_v 4) (re_int))) (re_bin o_mul g_mul (re_bin o_sub g_sub (re_fn A__law_digit tk (hr.mono (by omega)) (by rfl) (ra_cons (re_v 0) (ra_cons (re_int) (ra_nil)))) (re_int)) (re_v 2))) (ra_cons (re_v 3) (ra_cons (re_v 4) (ra_nil)))))))))))
theorem sc__law_handed : FnScope ["_law_tree_here", "_law_bottom", "_law_near", "_law_far"] ["_law_tree_here", "_law_bottom"] (defScope s__law_handed) := ⟨rfl, rfl, rfl, by decide +kernel, rfl, by decide +kernel, by decide +kernel⟩
theorem grow__law_handed {rec : Fn} (gr0 : GrC rec) : GrowS (b__law_handed rec) := gs_seq (gs_if (grow_val (grow_bin g_eq (grow_bin g_ix (gr_v _) (grow_c _)) (grow_c _))) (gs_ret (gr_tup (gr_cons (grow_c _) (gr_cons (grow_call gf__law_ratio (gr_cons (grow_bin g_ix (gr_v _) (grow_c _)) (gr_cons (gr_v _) (gr_nil)))) (gr_nil))))) (gs_nx)) (gs_seq (gs_asg (grow_call gr0 (gr_cons (grow_bin g_ix (gr_v _) (grow_c _)) (gr_cons (gr_v _) (gr_nil))))) (gs_seq (gs_asg (gr_v _)) (gs_seq (gs_if (grow_val (grow_bin g_ne (grow_bin g_ix (gr_v _) (grow_c _)) (grow_bin g_ix (gr_v _) (grow_c _)))) (gs_asg (grow_call gr0 (gr_cons (grow_bin g_ix (gr_v _) (grow_c _)) (gr_cons (gr_v _) (gr_nil))))) (gs_nx)) (gs_ret (gr_tup (gr_cons (grow_c _) (gr_cons (grow_call gf__law_ratio (gr_cons (grow_bin g_ix (gr_v _) (grow_c _)) (gr_cons (gr_v _) (gr_nil)))) (gr_cons (gr_v _) (gr_cons (gr_v _) (gr_nil))))))))))
theorem gf__law_handed : ∀ m, GrC (f__law_handed m)
  | 0 => fun _ _ => trivial
  | m + 1 => grow_def (grow__law_handed (gf__law_handed m))
theorem ok__law_handed {f : Addr} {fd : FuncData} (T : Txt K mg cls) (R : RawFn K mg "_law_handed" s__law_handed ["_law_tree_here", "_law_bottom"] f fd) (A__law_ratio : FnAt P w K mg base cls "_law_ratio" 1 (f__law_ratio)) : ∀ m, FnAt P w K mg base cls "_law_handed" (1 + m + 1) (f__law_handed m)
  | 0 => fn_none R _
  | m + 1 => by
    have IH := ok__law_handed T R A__law_ratio m
    refine FnAt.mkE (en := gc) R sc__law_handed (end_gc T.su) (by decide) (gf__law_handed (m + 1)) fun cdv A outer s H E hr tk hp => ?_
    have nd := (sc__law_handed).nd
    have hu := hr.units
    exact rss_cons (rs_if (rt_cmp (o_eq hu) g_eq (re_ix (re_v 0) (re_int)) (re_str [101, 110, 100]) (nomark _)) (rss_one (rs_ret (re_tup (ra_cons (re_str [101, 110, 100]) (ra_cons (re_fn A__law_ratio tk (hr.mono (by omega)) (by rfl) (ra_cons (re_ix (re_v 0) (re_int)) (ra_cons (re_v 1) (ra_nil)))) (ra_nil)))))) (rss_nil)) (rss_cons (rs_set 2 nd rfl (by first | exact Or.inl rfl | exact Or.inr rfl) (re_fn IH tk (hr.mono (by omega)) (by rfl) (ra_cons (re_ix (re_v 0) (re_int)) (ra_cons (re_v 1) (ra_nil))))) (rss_cons (rs_set 3 nd rfl (by first | exact Or.inl rfl | exact Or.inr rfl) (re_v 2)) (rss_cons (rs_if (rt_cmp (o_ne hu) g_ne (re_ix (re_v 0) (re_int)) (re_ix (re_v 0) (re_int)) (nomark _)) (rss_one (rs_set 3 nd rfl (by first | exact Or.inl rfl | exact Or.inr rfl) (re_fn IH tk (hr.mono (by omega)) (by rfl) (ra_cons (re_ix (re_v 0) (re_int)) (ra_cons (re_v 1) (ra_nil)))))) (rss_nil)) (rss_one (rs_ret (re_tup (ra_cons (re_str [102, 111, 114, 107]) (ra_cons (re_fn A__law_ratio tk (hr.mono (by omega)) (by rfl) (ra_cons (re_ix (re_v 0) (re_int)) (ra_cons (re_v 1) (ra_nil)))) (ra_cons (re_v 2) (ra_cons (re_v 3) (ra_nil)))))))))))
theorem sc__law_drawn : FnScope ["_law_tree_here", "_law_place", "_law_cell_here", "_law_far"] ["_law_tree_here", "_law_place", "_law_cell_here"] (defScope s__law_drawn) := ⟨rfl, rfl, rfl, by decide +kernel, rfl, by decide +kernel, by decide +kernel⟩
theorem grow__law_drawn {rec : Fn} (gr0 : GrC rec) : GrowS (b__law_drawn rec) := gs_seq (gs_if (gr_tor (grow_val (grow_bin g_eq (grow_bin g_ix (gr_v _) (grow_c _)) (grow_c _))) (grow_val (grow_bin g_eq (grow_bin g_mod (gr_v _) (grow_c _)) (grow_c _)))) (gs_ret (gr_gz (gr_lst (gr_cons (gr_v _) (gr_nil))))) (gs_nx)) (gs_seq (gs_asg (grow_call gr0 (gr_cons (grow_bin g_ix (gr_v _) (grow_c _)) (gr_cons (grow_bin g_add (gr_v _) (grow_c _)) (gr_cons (grow_call gf__law_next (gr_cons (gr_v _) (gr_cons (grow_c _) (gr_nil)))) (gr_nil)))))) (gs_ret (grow_bin g_add (gr_v _) (grow_call gr0 (gr_cons (grow_bin g_ix (gr_v _) (grow_c _)) (gr_cons (grow_bin g_add (gr_v _) (grow_c _)) (gr_cons (grow_call gf__law_next (gr_cons (gr_v _) (gr_cons (grow_c _) (gr_nil)))) (gr_nil))))))))
theorem gf__law_drawn : ∀ m, GrC (f__law_drawn m)
  | 0 => fun _ _ => trivial
  | m + 1 => grow_def (grow__law_drawn (gf__law_drawn m))
theorem ok__law_drawn {f : Addr} {fd : FuncData} (T : Txt K mg cls) (R : RawFn K mg "_law_drawn" s__law_drawn ["_law_tree_here", "_law_place", "_law_cell_here"] f fd) (A__law_next : FnAt P w K mg base cls "_law_next" 1 (f__law_next)) : ∀ m, FnAt P w K mg base cls "_law_drawn" (1 + m + 1) (f__law_drawn m)
  | 0 => fn_none R _
  | m + 1 => by
    have IH := ok__law_drawn T R A__law_next m
    refine FnAt.mkE (en := gc) R sc__law_drawn (end_gc T.su) (by decide) (gf__law_drawn (m + 1)) fun cdv A outer s H E hr tk hp => ?_
    have nd := (sc__law_drawn).nd
    have hu := hr.units
    exact rss_cons (rs_if (rt_w (rw_or (rt_cmp (o_eq hu) g_eq (re_ix (re_v 0) (re_int)) (re_str [101, 110, 100]) (nomark _)) (rw_or1 (rt_cmp (o_eq hu) g_eq (re_bin o_mod g_mod (re_v 2) (re_int)) (re_int) (nomark _))))) (rss_one (rs_ret (re_gz T.su (re_lst (ra_cons (re_v 1) (ra_nil)))))) (rss_nil)) (rss_cons (rs_set 3 nd rfl (by first | exact Or.inl rfl | exact Or.inr rfl) (re_fn IH tk (hr.mono (by omega)) (by rfl) (ra_cons (re_ix (re_v 0) (re_int)) (ra_cons (re_bin o_add g_add (re_v 1) (re_str [110])) (ra_cons (re_fn A__law_next tk (hr.mono (by omega)) (by rfl) (ra_cons (re_v 2) (ra_cons (re_int) (ra_nil)))) (ra_nil)))))) (rss_one (rs_ret (re_bin o_add g_add (re_v 3) (re_fn IH tk (hr.mono (by omega)) (by rfl) (ra_cons (re_ix (re_v 0) (re_int)) (ra_cons (re_bin o_add g_add (re_v 1) (re_str [121])) (ra_cons (re_fn A__law_next tk (hr.mono (by omega)) (by rfl) (ra_cons (re_v 2) (ra_cons (re_int) (ra_nil)))) (ra_nil)))))))))
theorem sc__law_sum : FnScope ["_law_tree_here", "_law_places", "_law_found", "_law_place", "_law_part", "_law_sign"] ["_law_tree_here", "_law_places"] (defScope s__law_sum) := ⟨rfl, rfl, rfl, by decide +kernel, rfl, by decide +kernel, by decide +kernel⟩
theorem gl_L1__law_sum : GrowS L1__law_sum := gs_asg (grow_bin g_ix (gr_v _) (grow_bin g_add (grow_c _) (grow_call gc_int (gr_cons (grow_bin g_eq (gr_v _) (grow_c _)) (gr_nil)))))
theorem gl_L2__law_sum : GrowS L2__law_sum := gs_seq (gs_asg (gr_v _)) (gs_seq (gs_for (gi_any (gr_v _)) (gl_L1__law_sum)) (gs_aug g_addI (grow_bin g_ix (gr_v _) (grow_c _))))
theorem grow__law_sum : GrowS b__law_sum := gs_seq (gs_asg (grow_c _)) (gs_seq (gs_for (gi_any (gr_v _)) (gl_L2__law_sum)) (gs_ret (gr_v _)))
theorem gf__law_sum : GrC f__law_sum := grow_def grow__law_sum
theorem ok__law_sum {f : Addr} {fd : FuncData} (T : Txt K mg cls) (R : RawFn K mg "_law_sum" s__law_sum ["_law_tree_here", "_law_places"] f fd)  : FnAt P w K mg base cls "_law_sum" 1 f__law_sum := by
  refine FnAt.mkE (en := gc) R sc__law_sum (end_gc T.su) (by decide) gf__law_sum fun cdv A outer s H E hr tk hp => ?_
  have nd := (sc__law_sum).nd
  have hu := hr.units
  exact rss_cons (rs_set 2 nd rfl (by first | exact Or.inl rfl | exact Or.inr rfl) (re_int)) (rss_cons (rs_for hp rfl (ri_any (re_v 1)) (rg_n 3 nd rfl (by first | exact Or.inl rfl | exact Or.inr rfl)) (rss_cons (rs_set 4 nd rfl (by first | exact Or.inl rfl | exact Or.inr rfl) (re_v 0)) (rss_cons (rs_for hp rfl (ri_any (re_v 3)) (rg_n 5 nd rfl (by first | exact Or.inl rfl | exact Or.inr rfl)) (rss_one (rs_set 4 nd rfl (by first | exact Or.inl rfl | exact Or.inr rfl) (re_ix (re_v 4) (re_bin o_add g_add (re_int) (re_biT c_int gc_int (by rfl) T.n_int boot_int (ra_cons (re_cmp (o_eq hu) g_eq (re_v 5) (re_str [110]) (nomark _)) (ra_nil)))))))) (rss_one (rs_augI 2 nd rfl (by first | exact Or.inl rfl | exact Or.inr rfl) (re_ix (re_v 4) (re_int)) ip_add g_addI addI_or))))) (rss_one (rs_ret (re_v 2))))
theorem sc__law_ends : FnScope ["_law_tree_here", "_law_place"] ["_law_tree_here", "_law_place"] (defScope s__law_ends) := ⟨rfl, rfl, rfl, by decide +kernel, rfl, by decide +kernel, by decide +kernel⟩
theorem grow__law_ends {rec : Fn} (gr0 : GrC rec) : GrowS (b__law_ends rec) := gs_seq (gs_if (grow_val (grow_bin g_eq (grow_bin g_ix (gr_v _) (grow_c _)) (grow_c _))) (gs_ret (gr_gz (gr_lst (gr_cons (gr_v _) (gr_nil))))) (gs_nx)) (gs_ret (grow_bin g_add (grow_call gr0 (gr_cons (grow_bin g_ix (gr_v _) (grow_c _)) (gr_cons (grow_bin g_add (gr_v _) (grow_c _)) (gr_nil)))) (grow_call gr0 (gr_cons (grow_bin g_ix (gr_v _) (grow_c _)) (gr_cons (grow_bin g_add (gr_v _) (grow_c _)) (gr_nil))))))
theorem gf__law_ends : ∀ m, GrC (f__law_ends m)
  | 0 => fun _ _ => trivial
  | m + 1 => grow_def (grow__law_ends (gf__law_ends m))
theorem ok__law_ends {f : Addr} {fd : FuncData} (T : Txt K mg cls) (R : RawFn K mg "_law_ends" s__law_ends ["_law_tree_here", "_law_place"] f fd)  : ∀ m, FnAt P w K mg base cls "_law_ends" (0 + m + 1) (f__law_ends m)
  | 0 => fn_none R _
  | m + 1 => by
    have IH := ok__law_ends T R  m
    refine FnAt.mkE (en := gc) R sc__law_ends (end_gc T.su) (by decide) (gf__law_ends (m + 1)) fun cdv A outer s H E hr tk hp => ?_
    have nd := (sc__law_ends).nd
    have hu := hr.units
    exact rss_cons (rs_if (rt_cmp (o_eq hu) g_eq (re_ix (re_v 0) (re_int)) (re_str [101, 110, 100]) (nomark _)) (rss_one (rs_ret (re_gz T.su (re_lst (ra_cons (re_v 1) (ra_nil)))))) (rss_nil)) (rss_one (rs_ret (re_bin o_add g_add (re_fn IH tk (hr.mono (by omega)) (by rfl) (ra_cons (re_ix (re_v 0) (re_int)) (ra_cons (re_bin o_add g_add (re_v 1) (re_str [110])) (ra_nil)))) (re_fn IH tk (hr.mono (by omega)) (by rfl) (ra_cons (re_ix (re_v 0) (re_int)) (ra_cons (re_bin o_add g_add (re_v 1) (re_str [121])) (ra_nil)))))))
theorem sc__law_is_pruning : FnScope ["_law_tree_here", "_law_places", "_law_met", "_law_final", "_law_above", "_law_place"] ["_law_tree_here", "_law_places"] (defScope s__law_is_pruning) := ⟨rfl, rfl, rfl, by decide +kernel, rfl, by decide +kernel, by decide +kernel⟩
theorem gl_L1__law_is_pruning : GrowS L1__law_is_pruning := gs_seq (gs_asg (gr_gz (grow_comp (gi_any (gr_v _)) (grow_val (gr_met gm_starts (gr_v _) (gr_cons (gr_v _) (gr_nil)))) (gr_v _)))) (gs_seq (gs_if (grow_val (grow_bin g_ne (grow_call gc_len (gr_cons (gr_v _) (gr_nil))) (grow_c _))) (gs_ret (grow_c _)) (gs_nx)) (gs_sub (grow_c _) (gr_v _) (grow_bin g_ix (gr_v _) (grow_c _))))
theorem grow__law_is_pruning : GrowS b__law_is_pruning := gs_seq (gs_if (gr_tor (gr_tnot (grow_val (grow_un (g_is _) (gr_v _)))) (grow_val (grow_bin g_ne (gr_gz (grow_call gc_sortSet (gr_cons (gr_v _) (gr_nil)))) (gr_v _)))) (gs_ret (grow_c _)) (gs_nx)) (gs_seq (gs_asg (gr_dct0)) (gs_seq (gs_for (gi_any (grow_call (gf__law_ends _) (gr_cons (gr_v _) (gr_cons (grow_c _) (gr_nil))))) (gl_L1__law_is_pruning)) (gs_ret (grow_bin g_eq (grow_call gc_len (gr_cons (gr_v _) (gr_nil))) (grow_call gc_len (gr_cons (gr_v _) (gr_nil)))))))
theorem gf__law_is_pruning : GrC f__law_is_pruning := grow_def grow__law_is_pruning
theorem ok__law_is_pruning {f : Addr} {fd : FuncData} (T : Txt K mg cls) (R : RawFn K mg "_law_is_pruning" s__law_is_pruning ["_law_tree_here", "_law_places"] f fd) (A__law_ends : FnAt P w K mg base cls "_law_ends" 65 ((f__law_ends 64))) : FnAt P w K mg base cls "_law_is_pruning" 66 f__law_is_pruning := by
  refine FnAt.mkE (en := gc) R sc__law_is_pruning (end_gc T.su) (by decide) gf__law_is_pruning fun cdv A outer s H E hr tk hp => ?_
  have nd := (sc__law_is_pruning).nd
  have hu := hr.units
  exact rss_cons (rs_if (rt_w (rw_or (rt_not (rt_val (re_is .list (by rfl) T.n_isinstance (by rfl) T.n_list boot_list (re_v 1)))) (rw_or1 (rt_cmp (o_ne hu) g_ne (re_gz T.su (re_sortSet rfl (by rfl) T.n_sorted boot_sorted (by rfl) T.n_set boot_set (ra_cons (re_v 1) (ra_nil)))) (re_v 1) (nomark _))))) (rss_one (rs_ret (re_bl))) (rss_nil)) (rss_cons (rs_set 2 nd rfl (by first | exact Or.inl rfl | exact Or.inr rfl) (re_dct0)) (rss_cons (rs_for hp rfl (ri_any (re_fn A__law_ends tk (hr.mono (by decide)) (by rfl) (ra_cons (re_v 0) (ra_cons (re_str []) (ra_nil))))) (rg_n 3 nd rfl (by first | exact Or.inl rfl | exact Or.inr rfl)) (rss_cons (rs_gzN T.su (rs_setComp (own := [("_law_place", 5)]) 4 rfl nd rfl rfl (sw_true rfl rfl rfl (by decide +kernel)) (ri_any (re_v 1)) (blkOk_by (own := [("_law_place", 5)]) (N := ["_law_tree_here", "_law_places", "_law_met", "_law_final", "_law_above", "_law_place"]) (sc := defScope s__law_is_pruning) (by decide +kernel)) (fun _ _ _ _ _ => rg_n 5 nd rfl (by first | exact Or.inl rfl | exact Or.inr rfl)) (fun _ _ _ _ _ => rts_one (rt_val (re_met (k := .str) PySem.F.plainAttrs_str PySem.F.slot_str_startswith PySem.F.type_str_startswith m_starts gm_starts (re_v 3) (ra_cons (re_v 5) (ra_nil))))) (fun _ _ _ _ _ => re_v 5) (grow_val (gr_met gm_starts (gr_v _) (gr_cons (gr_v _) (gr_nil)))) (gr_v _) (by decide)) (grow_comp (gi_any (gr_v _)) (grow_val (gr_met gm_starts (gr_v _) (gr_cons (gr_v _) (gr_nil)))) (gr_v _))) (rss_cons (rs_if (rt_cmp (o_ne hu) g_ne (re_biB c_len gc_len (by rfl) T.n_len boot_len (ra_cons (re_v 4) (ra_nil))) (re_int) (nomark _)) (rss_one (rs_ret (re_bl))) (rss_nil)) (rss_one (rs_sub hu (re_bl) (re_v 2) (re_ix (re_v 4) (re_int))))))) (rss_one (rs_ret (re_cmp (o_eq hu) g_eq (re_biB c_len gc_len (by rfl) T.n_len boot_len (ra_cons (re_v 2) (ra_nil))) (re_biB c_len gc_len (by rfl) T.n_len boot_len (ra_cons (re_v 1) (ra_nil))) (nomark _))))))
theorem sc__law_worth : FnScope ["_law_top", "_law_leaves", "_law_bottom", "_law_price"] ["_law_top", "_law_leaves", "_law_bottom", "_law_price"] (defScope s__law_worth) := ⟨rfl, rfl, rfl, by decide +kernel, rfl, by decide +kernel, by decide +kernel⟩
theorem grow__law_worth : GrowS b__law_worth := gs_ret (grow_bin g_add (grow_bin g_mul (gr_v _) (grow_bin g_ix (gr_v _) (grow_c _))) (grow_bin g_mul (grow_bin g_mul (grow_bin g_ix (gr_v _) (grow_c _)) (gr_v _)) (gr_v _)))
theorem gf__law_worth : GrC f__law_worth := grow_def grow__law_worth
theorem ok__law_worth {f : Addr} {fd : FuncData} (T : Txt K mg cls) (R : RawFn K mg "_law_worth" s__law_worth ["_law_top", "_law_leaves", "_law_bottom", "_law_price"] f fd)  : FnAt P w K mg base cls "_law_worth" 1 f__law_worth := by
  refine FnAt.mkE (en := gc) R sc__law_worth (end_gc T.su) (by decide) gf__law_worth fun cdv A outer s H E hr tk hp => ?_
  have nd := (sc__law_worth).nd
  have hu := hr.units
  exact rss_one (rs_ret (re_bin o_add g_add (re_bin o_mul g_mul (re_v 0) (re_ix (re_v 3) (re_int))) (re_bin o_mul g_mul (re_bin o_mul g_mul (re_ix (re_v 3) (re_int)) (re_v 2)) (re_v 1))))
theorem sc_law : FnScope ["_law_script", "_law_scale", "_law_bottom", "_law_tree_here", "_law_cell_here", "_law_handed_here", "_law_rungs_told", "_law_steps", "_law_found", "_law_top", "_law_price", "_law_told", "_law_due", "_law_rung", "_law_places", "_law_step"] ["_law_script"] (defScope s_law) := ⟨rfl, rfl, rfl, by decide +kernel, rfl, by decide +kernel, by decide +kernel⟩
theorem gl_L1_law : GrowS L1_law := gs_if (grow_val (grow_bin g_lt (grow_call gf__law_worth (gr_cons (grow_call gf__law_sum (gr_cons (gr_v _) (gr_cons (grow_bin g_ix (gr_v _) (grow_c _)) (gr_nil)))) (gr_cons (grow_bin g_ix (gr_v _) (grow_c _)) (gr_cons (gr_v _) (gr_cons (gr_v _) (gr_nil)))))) (gr_v _))) (gs_ret (grow_c _)) (gs_nx)
theorem gl_L2_law : GrowS L2_law := gs_seq (gs_asg (grow_call gf_for_price (gr_cons (gr_v _) (gr_cons (grow_call gf__law_ratio (gr_cons (grow_bin g_ix (gr_v _) (grow_c _)) (gr_cons (grow_bin g_ix (gr_v _) (grow_c _)) (gr_nil)))) (gr_nil))))) (gs_seq (gs_if (gr_tnot (grow_val (grow_call gf__law_is_pruning (gr_cons (gr_v _) (gr_cons (gr_v _) (gr_nil)))))) (gs_ret (grow_c _)) (gs_nx)) (gs_seq (gs_asg (grow_call gf__law_worth (gr_cons (grow_call gf__law_sum (gr_cons (gr_v _) (gr_cons (gr_v _) (gr_nil)))) (gr_cons (grow_call gc_len (gr_cons (gr_v _) (gr_nil))) (gr_cons (gr_v _) (gr_cons (gr_v _) (gr_nil))))))) (gs_seq (gs_for (gi_any (gr_v _)) (gl_L1_law)) (gs_seq (gs_asg (grow_call (gf__law_drawn _) (gr_cons (gr_v _) (gr_cons (grow_c _) (gr_cons (grow_call gf__law_next (gr_cons (gr_v _) (gr_cons (grow_c _) (gr_nil)))) (gr_nil)))))) (gs_if (grow_val (grow_bin g_lt (grow_call gf__law_worth (gr_cons (grow_call gf__law_sum (gr_cons (gr_v _) (gr_cons (gr_v _) (gr_nil)))) (gr_cons (grow_call gc_len (gr_cons (gr_v _) (gr_nil))) (gr_cons (gr_v _) (gr_cons (gr_v _) (gr_nil)))))) (gr_v _))) (gs_ret (grow_c _)) (gs_nx))))))
theorem grow_law : GrowS b_law := gs_seq (gs_asg (grow_bin g_ix (gr_gz (gr_lst (gr_cons (grow_c _) (gr_cons (grow_c _) (gr_cons (grow_bin g_pow (grow_c _) (grow_c _)) (gr_nil)))))) (grow_bin g_mod (grow_call gf__law_cell (gr_cons (gr_v _) (gr_cons (grow_c _) (gr_nil)))) (grow_c _)))) (gs_seq (gs_asg (grow_bin g_add (grow_c _) (grow_bin g_mod (grow_call gf__law_cell (gr_cons (gr_v _) (gr_cons (grow_c _) (gr_nil)))) (grow_bin g_pow (grow_c _) (grow_c _))))) (gs_seq (gs_asg (grow_call gf__law_tree (gr_cons (gr_gz (gr_sl (gr_v _) (gr_pat (grow_c _)) (gr_pat (grow_c _)))) (gr_cons (gr_v _) (gr_nil))))) (gs_seq (gs_if (grow_val (grow_bin g_eq (grow_bin g_mod (grow_bin g_div (grow_call gf__law_cell (gr_cons (gr_v _) (gr_cons (grow_c _) (gr_nil)))) (grow_c _)) (grow_c _)) (grow_c _))) (gs_seq (gs_asg (grow_call gf__law_cell (gr_cons (gr_v _) (gr_cons (grow_c _) (gr_nil))))) (gs_asg (grow_call (gf__law_grown _) (gr_cons (gr_lst (gr_cons (grow_bin g_ix (gr_gz (gr_lst (gr_cons (grow_bin g_mod (grow_bin g_div (gr_v _) (grow_c _)) (grow_c _)) (gr_cons (grow_bin g_div (gr_v _) (grow_c _)) (gr_nil))))) (grow_bin g_mod (gr_v _) (grow_c _))) (gr_cons (grow_bin g_mod (gr_v _) (grow_c _)) (gr_nil)))) (gr_cons (gr_lst (gr_cons (grow_c _) (gr_nil))) (gr_cons (gr_v _) (gr_nil))))))) (gs_nx)) (gs_seq (gs_asg (grow_call (gf__law_handed _) (gr_cons (gr_v _) (gr_cons (gr_v _) (gr_nil))))) (gs_seq (gs_asg (gr_gz (grow_call gf_ladder (gr_cons (gr_v _) (gr_nil))))) (gs_seq (gs_asg (grow_call gf_path (gr_cons (gr_v _) (gr_nil)))) (gs_seq (gs_asg (grow_call gf_corners (gr_cons (gr_gz (grow_comp (gi_any (gr_v _)) (gr_yes) (gr_tup (gr_cons (grow_bin g_ix (gr_v _) (grow_c _)) (gr_cons (grow_bin g_ix (gr_v _) (grow_c _)) (gr_nil)))))) (gr_nil)))) (gs_seq (gs_if (grow_val (grow_bin g_ne (gr_v _) (gr_gz (grow_comp (gi_any (gr_v _)) (gr_yes) (gr_tup (gr_cons (grow_bin g_ix (gr_v _) (grow_c _)) (gr_cons (grow_call gc_len (gr_cons (grow_bin g_ix (gr_v _) (grow_c _)) (gr_nil))) (gr_nil)))))))) (gs_ret (grow_c _)) (gs_nx)) (gs_seq (gs_asg (grow_call gf__law_cell (gr_cons (gr_v _) (gr_cons (grow_c _) (gr_nil))))) (gs_seq (gs_asg (grow_bin g_mod (grow_bin g_div (gr_v _) (grow_c _)) (grow_bin g_mul (grow_c _) (gr_v _)))) (gs_seq (gs_for (gi_any (gr_gz (gr_lst (gr_cons (gr_tup (gr_cons (gr_v _) (gr_cons (gr_v _) (gr_nil)))) (gr_cons (gr_tup (gr_cons (grow_bin g_mul (grow_bin g_mod (gr_v _) (grow_c _)) (gr_v _)) (gr_cons (gr_v _) (gr_nil)))) (gr_cons (gr_tup (gr_cons (grow_c _) (gr_cons (grow_c _) (gr_nil)))) (gr_cons (gr_tup (gr_cons (grow_bin g_div (gr_v _) (grow_c _)) (gr_cons (grow_c _) (gr_nil)))) (gr_nil)))))))) (gl_L2_law)) (gs_ret (grow_c _)))))))))))))
theorem ok_law {f : Addr} {fd : FuncData} (T : Txt K mg cls) (R : RawFn K mg "law" s_law ["_law_script"] f fd) (A_ladder : FnAt P w K mg base cls "ladder" 70 (f_ladder)) (A_corners : FnAt P w K mg base cls "corners" 5 (f_corners)) (A_path : FnAt P w K mg base cls "path" 70 (f_path)) (A_for_price : FnAt P w K mg base cls "for_price" 3 (f_for_price)) (A__law_cell : FnAt P w K mg base cls "_law_cell" 1 (f__law_cell)) (A__law_next : FnAt P w K mg base cls "_law_next" 1 (f__law_next)) (A__law_ratio : FnAt P w K mg base cls "_law_ratio" 1 (f__law_ratio)) (A__law_tree : FnAt P w K mg base cls "_law_tree" 2 (f__law_tree)) (A__law_grown : FnAt P w K mg base cls "_law_grown" 66 ((f__law_grown 64))) (A__law_handed : FnAt P w K mg base cls "_law_handed" 66 ((f__law_handed 64))) (A__law_drawn : FnAt P w K mg base cls "_law_drawn" 66 ((f__law_drawn 64))) (A__law_sum : FnAt P w K mg base cls "_law_sum" 1 (f__law_sum)) (A__law_is_pruning : FnAt P w K mg base cls "_law_is_pruning" 66 (f__law_is_pruning)) (A__law_worth : FnAt P w K mg base cls "_law_worth" 1 (f__law_worth)) : FnOk P w K mg base (L2.CX P w) 71 f fd ["_law_script"] (SpI K cls f_law) := by
  refine fn_ok (en := gc) R.F sc_law (end_gc T.su) (by decide) fun cdv A outer s H E hr => ?_
  have tk : Takes (cxOf (L2.CX P w) P w K mg base ["_law_script", "_law_scale", "_law_bottom", "_law_tree_here", "_law_cell_here", "_law_handed_here", "_law_rungs_told", "_law_steps", "_law_found", "_law_top", "_law_price", "_law_told", "_law_due", "_law_rung", "_law_places", "_law_step"] "law" (defScope s_law) f cdv A outer s H E) (fun cls d _ H => E cls d H) := takes_of rfl rfl rfl rfl
  have hp : PassesOwn (model P w) (cxOf (L2.CX P w) P w K mg base ["_law_script", "_law_scale", "_law_bottom", "_law_tree_here", "_law_cell_here", "_law_handed_here", "_law_rungs_told", "_law_steps", "_law_found", "_law_top", "_law_price", "_law_told", "_law_due", "_law_rung", "_law_places", "_law_step"] "law" (defScope s_law) f cdv A outer s H E).A (cxOf (L2.CX P w) P w K mg base ["_law_script", "_law_scale", "_law_bottom", "_law_tree_here", "_law_cell_here", "_law_handed_here", "_law_rungs_told", "_law_steps", "_law_found", "_law_top", "_law_price", "_law_told", "_law_due", "_law_rung", "_law_places", "_law_step"] "law" (defScope s_law) f cdv A outer s H E).env (cxOf (L2.CX P w) P w K mg base ["_law_script", "_law_scale", "_law_bottom", "_law_tree_here", "_law_cell_here", "_law_handed_here", "_law_rungs_told", "_law_steps", "_law_found", "_law_top", "_law_price", "_law_told", "_law_due", "_law_rung", "_law_places", "_law_step"] "law" (defScope s_law) f cdv A outer s H E).xe := passes_of rfl
  have nd := (sc_law).nd
  have hu := hr.units
  exact rss_cons (rs_set 1 nd rfl (by first | exact Or.inl rfl | exact Or.inr rfl) (re_ix (re_gz T.su (re_lst (ra_cons (re_int) (ra_cons (re_int) (ra_cons (re_bin o_pow g_pow (re_int) (re_int)) (ra_nil)))))) (re_bin o_mod g_mod (re_fn A__law_cell tk (hr.mono (by decide)) (by rfl) (ra_cons (re_v 0) (ra_cons (re_int) (ra_nil)))) (re_int)))) (rss_cons (rs_set 2 nd rfl (by first | exact Or.inl rfl | exact Or.inr rfl) (re_bin o_add g_add (re_int) (re_bin o_mod g_mod (re_fn A__law_cell tk (hr.mono (by decide)) (by rfl) (ra_cons (re_v 0) (ra_cons (re_int) (ra_nil)))) (re_bin o_pow g_pow (re_int) (re_int))))) (rss_cons (rs_set 3 nd rfl (by first | exact Or.inl rfl | exact Or.inr rfl) (re_fn A__law_tree tk (hr.mono (by decide)) (by rfl) (ra_cons (re_gz T.su (re_sl (re_v 0) (rp_at (re_int)) (rp_at (re_int)))) (ra_cons (re_v 1) (ra_nil))))) (rss_cons (rs_if (rt_cmp (o_eq hu) g_eq (re_bin o_mod g_mod (re_bin o_div g_div (re_fn A__law_cell tk (hr.mono (by decide)) (by rfl) (ra_cons (re_v 0) (ra_cons (re_int) (ra_nil)))) (re_int)) (re_int)) (re_int) (nomark _)) (rss_cons (rs_set 4 nd rfl (by first | exact Or.inl rfl | exact Or.inr rfl) (re_fn A__law_cell tk (hr.mono (by decide)) (by rfl) (ra_cons (re_v 0) (ra_cons (re_int) (ra_nil))))) (rss_one (rs_set 3 nd rfl (by first | exact Or.inl rfl | exact Or.inr rfl) (re_fn A__law_grown tk (hr.mono (by decide)) (by rfl) (ra_cons (re_lst (ra_cons (re_ix (re_gz T.su (re_lst (ra_cons (re_bin o_mod g_mod (re_bin o_div g_div (re_v 4) (re_int)) (re_int)) (ra_cons (re_bin o_div g_div (re_v 4) (re_int)) (ra_nil))))) (re_bin o_mod g_mod (re_v 4) (re_int))) (ra_cons (re_bin o_mod g_mod (re_v 4) (re_int)) (ra_nil)))) (ra_cons (re_lst (ra_cons (re_int) (ra_nil))) (ra_cons (re_v 1) (ra_nil)))))))) (rss_nil)) (rss_cons (rs_set 5 nd rfl (by first | exact Or.inl rfl | exact Or.inr rfl) (re_fn A__law_handed tk (hr.mono (by decide)) (by rfl) (ra_cons (re_v 3) (ra_cons (re_v 2) (ra_nil))))) (rss_cons (rs_set 6 nd rfl (by first | exact Or.inl rfl | exact Or.inr rfl) (re_gz T.su (re_fn A_ladder tk (hr.mono (by decide)) (by rfl) (ra_cons (re_v 5) (ra_nil))))) (rss_cons (rs_set 7 nd rfl (by first | exact Or.inl rfl | exact Or.inr rfl) (re_fn A_path tk (hr.mono (by decide)) (by rfl) (ra_cons (re_v 5) (ra_nil)))) (rss_cons (rs_set 8 nd rfl (by first | exact Or.inl rfl | exact Or.inr rfl) (re_fn A_corners tk (hr.mono (by decide)) (by rfl) (ra_cons (re_gz T.su (re_comp (own := [("_law_rung", 13)]) rfl nd (ri_any (re_v 6)) (blkOk_by (own := [("_law_rung", 13)]) (N := ["_law_script", "_law_scale", "_law_bottom", "_law_tree_here", "_law_cell_here", "_law_handed_here", "_law_rungs_told", "_law_steps", "_law_found", "_law_top", "_law_price", "_law_told", "_law_due", "_law_rung", "_law_places", "_law_step"]) (sc := defScope s_law) (by decide +kernel)) (fun _ _ _ _ _ => rg_n 13 nd rfl (by first | exact Or.inl rfl | exact Or.inr rfl)) (fun _ _ _ _ _ => rts_nil) (fun _ _ _ _ _ => re_tup (ra_cons (re_ix (re_v 13) (re_int)) (ra_cons (re_ix (re_v 13) (re_int)) (ra_nil)))) (gr_yes) (gr_tup (gr_cons (grow_bin g_ix (gr_v _) (grow_c _)) (gr_cons (grow_bin g_ix (gr_v _) (grow_c _)) (gr_nil)))) (by decide))) (ra_nil)))) (rss_cons (rs_if (rt_cmp (o_ne hu) g_ne (re_v 8) (re_gz T.su (re_comp (own := [("_law_step", 15)]) rfl nd (ri_any (re_v 7)) (blkOk_by (own := [("_law_step", 15)]) (N := ["_law_script", "_law_scale", "_law_bottom", "_law_tree_here", "_law_cell_here", "_law_handed_here", "_law_rungs_told", "_law_steps", "_law_found", "_law_top", "_law_price", "_law_told", "_law_due", "_law_rung", "_law_places", "_law_step"]) (sc := defScope s_law) (by decide +kernel)) (fun _ _ _ _ _ => rg_n 15 nd rfl (by first | exact Or.inl rfl | exact Or.inr rfl)) (fun _ _ _ _ _ => rts_nil) (fun _ _ _ _ _ => re_tup (ra_cons (re_ix (re_v 15) (re_int)) (ra_cons (re_biB c_len gc_len (by rfl) T.n_len boot_len (ra_cons (re_ix (re_v 15) (re_int)) (ra_nil))) (ra_nil)))) (gr_yes) (gr_tup (gr_cons (grow_bin g_ix (gr_v _) (grow_c _)) (gr_cons (grow_call gc_len (gr_cons (grow_bin g_ix (gr_v _) (grow_c _)) (gr_nil))) (gr_nil)))) (by decide))) (nomark _)) (rss_one (rs_ret (re_bl))) (rss_nil)) (rss_cons (rs_set 4 nd rfl (by first | exact Or.inl rfl | exact Or.inr rfl) (re_fn A__law_cell tk (hr.mono (by decide)) (by rfl) (ra_cons (re_v 0) (ra_cons (re_int) (ra_nil))))) (rss_cons (rs_set 9 nd rfl (by first | exact Or.inl rfl | exact Or.inr rfl) (re_bin o_mod g_mod (re_bin o_div g_div (re_v 4) (re_int)) (re_bin o_mul g_mul (re_int) (re_v 1)))) (rss_cons (rs_for hp rfl (ri_any (re_gz T.su (re_lst (ra_cons (re_tup (ra_cons (re_v 9) (ra_cons (re_v 2) (ra_nil)))) (ra_cons (re_tup (ra_cons (re_bin o_mul g_mul (re_bin o_mod g_mod (re_v 4) (re_int)) (re_v 1)) (ra_cons (re_v 2) (ra_nil)))) (ra_cons (re_tup (ra_cons (re_int) (ra_cons (re_int) (ra_nil)))) (ra_cons (re_tup (ra_cons (re_bin o_div g_div (re_v 9) (re_int)) (ra_cons (re_int) (ra_nil)))) (ra_nil)))))))) (rg_n 10 nd rfl (by first | exact Or.inl rfl | exact Or.inr rfl)) (rss_cons (rs_set 11 nd rfl (by first | exact Or.inl rfl | exact Or.inr rfl) (re_fn A_for_price tk (hr.mono (by decide)) (by rfl) (ra_cons (re_v 7) (ra_cons (re_fn A__law_ratio tk (hr.mono (by decide)) (by rfl) (ra_cons (re_ix (re_v 10) (re_int)) (ra_cons (re_ix (re_v 10) (re_int)) (ra_nil)))) (ra_nil))))) (rss_cons (rs_if (rt_not (rt_val (re_fn A__law_is_pruning tk (hr.mono (by decide)) (by rfl) (ra_cons (re_v 3) (ra_cons (re_v 11) (ra_nil)))))) (rss_one (rs_ret (re_bl))) (rss_nil)) (rss_cons (rs_set 12 nd rfl (by first | exact Or.inl rfl | exact Or.inr rfl) (re_fn A__law_worth tk (hr.mono (by decide)) (by rfl) (ra_cons (re_fn A__law_sum tk (hr.mono (by decide)) (by rfl) (ra_cons (re_v 3) (ra_cons (re_v 11) (ra_nil)))) (ra_cons (re_biB c_len gc_len (by rfl) T.n_len boot_len (ra_cons (re_v 11) (ra_nil))) (ra_cons (re_v 2) (ra_cons (re_v 10) (ra_nil))))))) (rss_cons (rs_for hp rfl (ri_any (re_v 6)) (rg_n 13 nd rfl (by first | exact Or.inl rfl | exact Or.inr rfl)) (rss_one (rs_if (rt_cmp o_lt g_lt (re_fn A__law_worth tk (hr.mono (by decide)) (by rfl) (ra_cons (re_fn A__law_sum tk (hr.mono (by decide)) (by rfl) (ra_cons (re_v 3) (ra_cons (re_ix (re_v 13) (re_int)) (ra_nil)))) (ra_cons (re_ix (re_v 13) (re_int)) (ra_cons (re_v 2) (ra_cons (re_v 10) (ra_nil)))))) (re_v 12) (nomark _)) (rss_one (rs_ret (re_bl))) (rss_nil)))) (rss_cons (rs_set 14 nd rfl (by first | exact Or.inl rfl | exact Or.inr rfl) (re_fn A__law_drawn tk (hr.mono (by decide)) (by rfl) (ra_cons (re_v 3) (ra_cons (re_str []) (ra_cons (re_fn A__law_next tk (hr.mono (by decide)) (by rfl) (ra_cons (re_v 4) (ra_cons (re_int) (ra_nil)))) (ra_nil)))))) (rss_one (rs_if (rt_cmp o_lt g_lt (re_fn A__law_worth tk (hr.mono (by decide)) (by rfl) (ra_cons (re_fn A__law_sum tk (hr.mono (by decide)) (by rfl) (ra_cons (re_v 3) (ra_cons (re_v 14) (ra_nil)))) (ra_cons (re_biB c_len gc_len (by rfl) T.n_len boot_len (ra_cons (re_v 14) (ra_nil))) (ra_cons (re_v 2) (ra_cons (re_v 10) (ra_nil)))))) (re_v 12) (nomark _)) (rss_one (rs_ret (re_bl))) (rss_nil))))))))) (rss_one (rs_ret (re_bl))))))))))))))
end
theorem all_mk {l : PySem.W.OpenLaw} {w : World} {K : PySem.W.Frag} {h : Heap} {mg : PySem.Str → Option Value} {fa f1 f2 f3 f4 f5 f6 f7 f8 f9 f10 f11 f12 f13 f14 f15 f16 f17 f18 f19 f20 f21 f22 f23 f24 f25 f26 f27 f28 f29 f30 f31 f32 f33 f34 f35 C_NoPrice C_NoRatio C_PruneError : Addr} (X : K.In h) (G : h.Ns mainGlobals mg) (hfa : mg "law" = some (.ref fa))
    {od1 an1 od2 an2 od3 an3 od4 an4 od5 an5 od6 an6 od7 an7 od8 an8 od9 an9 od10 an10 od11 an11 od12 an12 od13 an13 od14 an14 od15 an15 od16 an16 od17 an17 od18 an18 od19 an19 od20 an20 od21 an21 od22 an22 od23 an23 od24 an24 od25 an25 od26 an26 od27 an27 od28 an28 od29 an29 od30 an30 od31 an31 od32 an32 od33 an33 od34 an34 od35 an35 : Option Addr} {sl1 sl2 sl3 sl4 sl5 sl6 sl7 sl8 sl9 sl10 sl11 sl12 sl13 sl14 sl15 sl16 sl17 sl18 sl19 sl20 sl21 sl22 sl23 sl24 sl25 sl26 sl27 sl28 sl29 sl30 sl31 sl32 sl33 sl34 sl35 : Array (Option Value)} {oc1 kV1 dc1 pm1 cd1 ct1 oc2 kV2 dc2 pm2 cd2 ct2 oc3 kV3 dc3 pm3 cd3 ct3 oc4 kV4 dc4 pm4 cd4 ct4 oc5 kV5 dc5 pm5 cd5 ct5 oc6 kV6 dc6 pm6 cd6 ct6 oc7 kV7 dc7 pm7 cd7 ct7 oc8 kV8 dc8 pm8 cd8 ct8 oc9 kV9 dc9 pm9 cd9 ct9 oc10 kV10 dc10 pm10 cd10 ct10 oc11 kV11 dc11 pm11 cd11 ct11 oc12 kV12 dc12 pm12 cd12 ct12 oc13 kV13 dc13 pm13 cd13 ct13 oc14 kV14 dc14 pm14 cd14 ct14 oc15 kV15 dc15 pm15 cd15 ct15 oc16 kV16 dc16 pm16 cd16 ct16 oc17 kV17 dc17 pm17 cd17 ct17 oc18 kV18 dc18 pm18 cd18 ct18 oc19 kV19 dc19 pm19 cd19 ct19 oc20 kV20 dc20 pm20 cd20 ct20 oc21 kV21 dc21 pm21 cd21 ct21 oc22 kV22 dc22 pm22 cd22 ct22 oc23 kV23 dc23 pm23 cd23 ct23 oc24 kV24 dc24 pm24 cd24 ct24 oc25 kV25 dc25 pm25 cd25 ct25 oc26 kV26 dc26 pm26 cd26 ct26 oc27 kV27 dc27 pm27 cd27 ct27 oc28 kV28 dc28 pm28 cd28 ct28 oc29 kV29 dc29 pm29 cd29 ct29 oc30 kV30 dc30 pm30 cd30 ct30 oc31 kV31 dc31 pm31 cd31 ct31 oc32 kV32 dc32 pm32 cd32 ct32 oc33 kV33 dc33 pm33 cd33 ct33 oc34 kV34 dc34 pm34 cd34 ct34 oc35 kV35 dc35 pm35 cd35 ct35 : Value}
    (a1 : PySem.W.nsIn K mainGlobals "shared_by" = some (some (.ref f1))) (l1 : K.lookup f1 = some ⟨oc1, od1, .func (PySem.W.fnOf "shared_by" "shared_by" (defArgs s_shared_by) (defBody s_shared_by) (defScope s_shared_by) .none kV1 dc1 pm1 an1 cd1 ct1), sl1⟩) (c1 : PySem.W.codeIn K cd1 "shared_by" = true) (k1 : PySem.W.keepIn K (.ref f1) = true)
    (a2 : PySem.W.nsIn K mainGlobals "ratio" = some (some (.ref f2))) (l2 : K.lookup f2 = some ⟨oc2, od2, .func (PySem.W.fnOf "ratio" "ratio" (defArgs s_ratio) (defBody s_ratio) (defScope s_ratio) .none kV2 dc2 pm2 an2 cd2 ct2), sl2⟩) (c2 : PySem.W.codeIn K cd2 "ratio" = true) (k2 : PySem.W.keepIn K (.ref f2) = true)
    (a3 : PySem.W.nsIn K mainGlobals "plus" = some (some (.ref f3))) (l3 : K.lookup f3 = some ⟨oc3, od3, .func (PySem.W.fnOf "plus" "plus" (defArgs s_plus) (defBody s_plus) (defScope s_plus) .none kV3 dc3 pm3 an3 cd3 ct3), sl3⟩) (c3 : PySem.W.codeIn K cd3 "plus" = true) (k3 : PySem.W.keepIn K (.ref f3) = true)
    (a4 : PySem.W.nsIn K mainGlobals "under" = some (some (.ref f4))) (l4 : K.lookup f4 = some ⟨oc4, od4, .func (PySem.W.fnOf "under" "under" (defArgs s_under) (defBody s_under) (defScope s_under) .none kV4 dc4 pm4 an4 cd4 ct4), sl4⟩) (c4 : PySem.W.codeIn K cd4 "under" = true) (k4 : PySem.W.keepIn K (.ref f4) = true)
    (a5 : PySem.W.nsIn K mainGlobals "joined_rung" = some (some (.ref f5))) (l5 : K.lookup f5 = some ⟨oc5, od5, .func (PySem.W.fnOf "joined_rung" "joined_rung" (defArgs s_joined_rung) (defBody s_joined_rung) (defScope s_joined_rung) .none kV5 dc5 pm5 an5 cd5 ct5), sl5⟩) (c5 : PySem.W.codeIn K cd5 "joined_rung" = true) (k5 : PySem.W.keepIn K (.ref f5) = true)
    (a6 : PySem.W.nsIn K mainGlobals "rungs" = some (some (.ref f6))) (l6 : K.lookup f6 = some ⟨oc6, od6, .func (PySem.W.fnOf "rungs" "rungs" (defArgs s_rungs) (defBody s_rungs) (defScope s_rungs) .none kV6 dc6 pm6 an6 cd6 ct6), sl6⟩) (c6 : PySem.W.codeIn K cd6 "rungs" = true) (k6 : PySem.W.keepIn K (.ref f6) = true)
    (a7 : PySem.W.nsIn K mainGlobals "ladder" = some (some (.ref f7))) (l7 : K.lookup f7 = some ⟨oc7, od7, .func (PySem.W.fnOf "ladder" "ladder" (defArgs s_ladder) (defBody s_ladder) (defScope s_ladder) .none kV7 dc7 pm7 an7 cd7 ct7), sl7⟩) (c7 : PySem.W.codeIn K cd7 "ladder" = true) (k7 : PySem.W.keepIn K (.ref f7) = true)
    (a8 : PySem.W.nsIn K mainGlobals "first_point" = some (some (.ref f8))) (l8 : K.lookup f8 = some ⟨oc8, od8, .func (PySem.W.fnOf "first_point" "first_point" (defArgs s_first_point) (defBody s_first_point) (defScope s_first_point) .none kV8 dc8 pm8 an8 cd8 ct8), sl8⟩) (c8 : PySem.W.codeIn K cd8 "first_point" = true) (k8 : PySem.W.keepIn K (.ref f8) = true)
    (a9 : PySem.W.nsIn K mainGlobals "minus" = some (some (.ref f9))) (l9 : K.lookup f9 = some ⟨oc9, od9, .func (PySem.W.fnOf "minus" "minus" (defArgs s_minus) (defBody s_minus) (defScope s_minus) .none kV9 dc9 pm9 an9 cd9 ct9), sl9⟩) (c9 : PySem.W.codeIn K cd9 "minus" = true) (k9 : PySem.W.keepIn K (.ref f9) = true)
    (a10 : PySem.W.nsIn K mainGlobals "over" = some (some (.ref f10))) (l10 : K.lookup f10 = some ⟨oc10, od10, .func (PySem.W.fnOf "over" "over" (defArgs s_over) (defBody s_over) (defScope s_over) .none kV10 dc10 pm10 an10 cd10 ct10), sl10⟩) (c10 : PySem.W.codeIn K cd10 "over" = true) (k10 : PySem.W.keepIn K (.ref f10) = true)
    (a11 : PySem.W.nsIn K mainGlobals "next_point" = some (some (.ref f11))) (l11 : K.lookup f11 = some ⟨oc11, od11, .func (PySem.W.fnOf "next_point" "next_point" (defArgs s_next_point) (defBody s_next_point) (defScope s_next_point) .none kV11 dc11 pm11 an11 cd11 ct11), sl11⟩) (c11 : PySem.W.codeIn K cd11 "next_point" = true) (k11 : PySem.W.keepIn K (.ref f11) = true)
    (a12 : PySem.W.nsIn K mainGlobals "corners" = some (some (.ref f12))) (l12 : K.lookup f12 = some ⟨oc12, od12, .func (PySem.W.fnOf "corners" "corners" (defArgs s_corners) (defBody s_corners) (defScope s_corners) .none kV12 dc12 pm12 an12 cd12 ct12), sl12⟩) (c12 : PySem.W.codeIn K cd12 "corners" = true) (k12 : PySem.W.keepIn K (.ref f12) = true)
    (a13 : PySem.W.nsIn K mainGlobals "best_under" = some (some (.ref f13))) (l13 : K.lookup f13 = some ⟨oc13, od13, .func (PySem.W.fnOf "best_under" "best_under" (defArgs s_best_under) (defBody s_best_under) (defScope s_best_under) .none kV13 dc13 pm13 an13 cd13 ct13), sl13⟩) (c13 : PySem.W.codeIn K cd13 "best_under" = true) (k13 : PySem.W.keepIn K (.ref f13) = true)
    (a14 : PySem.W.nsIn K mainGlobals "cheapest" = some (some (.ref f14))) (l14 : K.lookup f14 = some ⟨oc14, od14, .func (PySem.W.fnOf "cheapest" "cheapest" (defArgs s_cheapest) (defBody s_cheapest) (defScope s_cheapest) .none kV14 dc14 pm14 an14 cd14 ct14), sl14⟩) (c14 : PySem.W.codeIn K cd14 "cheapest" = true) (k14 : PySem.W.keepIn K (.ref f14) = true)
    (a15 : PySem.W.nsIn K mainGlobals "linked_under" = some (some (.ref f15))) (l15 : K.lookup f15 = some ⟨oc15, od15, .func (PySem.W.fnOf "linked_under" "linked_under" (defArgs s_linked_under) (defBody s_linked_under) (defScope s_linked_under) .none kV15 dc15 pm15 an15 cd15 ct15), sl15⟩) (c15 : PySem.W.codeIn K cd15 "linked_under" = true) (k15 : PySem.W.keepIn K (.ref f15) = true)
    (a16 : PySem.W.nsIn K mainGlobals "all_links" = some (some (.ref f16))) (l16 : K.lookup f16 = some ⟨oc16, od16, .func (PySem.W.fnOf "all_links" "all_links" (defArgs s_all_links) (defBody s_all_links) (defScope s_all_links) .none kV16 dc16 pm16 an16 cd16 ct16), sl16⟩) (c16 : PySem.W.codeIn K cd16 "all_links" = true) (k16 : PySem.W.keepIn K (.ref f16) = true)
    (a17 : PySem.W.nsIn K mainGlobals "tops_of" = some (some (.ref f17))) (l17 : K.lookup f17 = some ⟨oc17, od17, .func (PySem.W.fnOf "tops_of" "tops_of" (defArgs s_tops_of) (defBody s_tops_of) (defScope s_tops_of) .none kV17 dc17 pm17 an17 cd17 ct17), sl17⟩) (c17 : PySem.W.codeIn K cd17 "tops_of" = true) (k17 : PySem.W.keepIn K (.ref f17) = true)
    (a18 : PySem.W.nsIn K mainGlobals "cut" = some (some (.ref f18))) (l18 : K.lookup f18 = some ⟨oc18, od18, .func (PySem.W.fnOf "cut" "cut" (defArgs s_cut) (defBody s_cut) (defScope s_cut) .none kV18 dc18 pm18 an18 cd18 ct18), sl18⟩) (c18 : PySem.W.codeIn K cd18 "cut" = true) (k18 : PySem.W.keepIn K (.ref f18) = true)
    (a19 : PySem.W.nsIn K mainGlobals "least_link" = some (some (.ref f19))) (l19 : K.lookup f19 = some ⟨oc19, od19, .func (PySem.W.fnOf "least_link" "least_link" (defArgs s_least_link) (defBody s_least_link) (defScope s_least_link) .none kV19 dc19 pm19 an19 cd19 ct19), sl19⟩) (c19 : PySem.W.codeIn K cd19 "least_link" = true) (k19 : PySem.W.keepIn K (.ref f19) = true)
    (a20 : PySem.W.nsIn K mainGlobals "path" = some (some (.ref f20))) (l20 : K.lookup f20 = some ⟨oc20, od20, .func (PySem.W.fnOf "path" "path" (defArgs s_path) (defBody s_path) (defScope s_path) .none kV20 dc20 pm20 an20 cd20 ct20), sl20⟩) (c20 : PySem.W.codeIn K cd20 "path" = true) (k20 : PySem.W.keepIn K (.ref f20) = true)
    (a21 : PySem.W.nsIn K mainGlobals "for_price" = some (some (.ref f21))) (l21 : K.lookup f21 = some ⟨oc21, od21, .func (PySem.W.fnOf "for_price" "for_price" (defArgs s_for_price) (defBody s_for_price) (defScope s_for_price) .none kV21 dc21 pm21 an21 cd21 ct21), sl21⟩) (c21 : PySem.W.codeIn K cd21 "for_price" = true) (k21 : PySem.W.keepIn K (.ref f21) = true)
    (a22 : PySem.W.nsIn K mainGlobals "_law_cell" = some (some (.ref f22))) (l22 : K.lookup f22 = some ⟨oc22, od22, .func (PySem.W.fnOf "_law_cell" "_law_cell" (defArgs s__law_cell) (defBody s__law_cell) (defScope s__law_cell) .none kV22 dc22 pm22 an22 cd22 ct22), sl22⟩) (c22 : PySem.W.codeIn K cd22 "_law_cell" = true) (k22 : PySem.W.keepIn K (.ref f22) = true)
    (a23 : PySem.W.nsIn K mainGlobals "_law_next" = some (some (.ref f23))) (l23 : K.lookup f23 = some ⟨oc23, od23, .func (PySem.W.fnOf "_law_next" "_law_next" (defArgs s__law_next) (defBody s__law_next) (defScope s__law_next) .none kV23 dc23 pm23 an23 cd23 ct23), sl23⟩) (c23 : PySem.W.codeIn K cd23 "_law_next" = true) (k23 : PySem.W.keepIn K (.ref f23) = true)
    (a24 : PySem.W.nsIn K mainGlobals "_law_ratio" = some (some (.ref f24))) (l24 : K.lookup f24 = some ⟨oc24, od24, .func (PySem.W.fnOf "_law_ratio" "_law_ratio" (defArgs s__law_ratio) (defBody s__law_ratio) (defScope s__law_ratio) .none kV24 dc24 pm24 an24 cd24 ct24), sl24⟩) (c24 : PySem.W.codeIn K cd24 "_law_ratio" = true) (k24 : PySem.W.keepIn K (.ref f24) = true)
    (a25 : PySem.W.nsIn K mainGlobals "_law_joined" = some (some (.ref f25))) (l25 : K.lookup f25 = some ⟨oc25, od25, .func (PySem.W.fnOf "_law_joined" "_law_joined" (defArgs s__law_joined) (defBody s__law_joined) (defScope s__law_joined) .none kV25 dc25 pm25 an25 cd25 ct25), sl25⟩) (c25 : PySem.W.codeIn K cd25 "_law_joined" = true) (k25 : PySem.W.keepIn K (.ref f25) = true)
    (a26 : PySem.W.nsIn K mainGlobals "_law_tree" = some (some (.ref f26))) (l26 : K.lookup f26 = some ⟨oc26, od26, .func (PySem.W.fnOf "_law_tree" "_law_tree" (defArgs s__law_tree) (defBody s__law_tree) (defScope s__law_tree) .none kV26 dc26 pm26 an26 cd26 ct26), sl26⟩) (c26 : PySem.W.codeIn K cd26 "_law_tree" = true) (k26 : PySem.W.keepIn K (.ref f26) = true)
    (a27 : PySem.W.nsIn K mainGlobals "_law_digit" = some (some (.ref f27))) (l27 : K.lookup f27 = some ⟨oc27, od27, .func (PySem.W.fnOf "_law_digit" "_law_digit" (defArgs s__law_digit) (defBody s__law_digit) (defScope s__law_digit) .none kV27 dc27 pm27 an27 cd27 ct27), sl27⟩) (c27 : PySem.W.codeIn K cd27 "_law_digit" = true) (k27 : PySem.W.keepIn K (.ref f27) = true)
    (a28 : PySem.W.nsIn K mainGlobals "_law_grown" = some (some (.ref f28))) (l28 : K.lookup f28 = some ⟨oc28, od28, .func (PySem.W.fnOf "_law_grown" "_law_grown" (defArgs s__law_grown) (defBody s__law_grown) (defScope s__law_grown) .none kV28 dc28 pm28 an28 cd28 ct28), sl28⟩) (c28 : PySem.W.codeIn K cd28 "_law_grown" = true) (k28 : PySem.W.keepIn K (.ref f28) = true)
    (a29 : PySem.W.nsIn K mainGlobals "_law_handed" = some (some (.ref f29))) (l29 : K.lookup f29 = some ⟨oc29, od29, .func (PySem.W.fnOf "_law_handed" "_law_handed" (defArgs s__law_handed) (defBody s__law_handed) (defScope s__law_handed) .none kV29 dc29 pm29 an29 cd29 ct29), sl29⟩) (c29 : PySem.W.codeIn K cd29 "_law_handed" = true) (k29 : PySem.W.keepIn K (.ref f29) = true)
    (a30 : PySem.W.nsIn K mainGlobals "_law_drawn" = some (some (.ref f30))) (l30 : K.lookup f30 = some ⟨oc30, od30, .func (PySem.W.fnOf "_law_drawn" "_law_drawn" (defArgs s__law_drawn) (defBody s__law_drawn) (defScope s__law_drawn) .none kV30 dc30 pm30 an30 cd30 ct30), sl30⟩) (c30 : PySem.W.codeIn K cd30 "_law_drawn" = true) (k30 : PySem.W.keepIn K (.ref f30) = true)
    (a31 : PySem.W.nsIn K mainGlobals "_law_sum" = some (some (.ref f31))) (l31 : K.lookup f31 = some ⟨oc31, od31, .func (PySem.W.fnOf "_law_sum" "_law_sum" (defArgs s__law_sum) (defBody s__law_sum) (defScope s__law_sum) .none kV31 dc31 pm31 an31 cd31 ct31), sl31⟩) (c31 : PySem.W.codeIn K cd31 "_law_sum" = true) (k31 : PySem.W.keepIn K (.ref f31) = true)
    (a32 : PySem.W.nsIn K mainGlobals "_law_ends" = some (some (.ref f32))) (l32 : K.lookup f32 = some ⟨oc32, od32, .func (PySem.W.fnOf "_law_ends" "_law_ends" (defArgs s__law_ends) (defBody s__law_ends) (defScope s__law_ends) .none kV32 dc32 pm32 an32 cd32 ct32), sl32⟩) (c32 : PySem.W.codeIn K cd32 "_law_ends" = true) (k32 : PySem.W.keepIn K (.ref f32) = true)
    (a33 : PySem.W.nsIn K mainGlobals "_law_is_pruning" = some (some (.ref f33))) (l33 : K.lookup f33 = some ⟨oc33, od33, .func (PySem.W.fnOf "_law_is_pruning" "_law_is_pruning" (defArgs s__law_is_pruning) (defBody s__law_is_pruning) (defScope s__law_is_pruning) .none kV33 dc33 pm33 an33 cd33 ct33), sl33⟩) (c33 : PySem.W.codeIn K cd33 "_law_is_pruning" = true) (k33 : PySem.W.keepIn K (.ref f33) = true)
    (a34 : PySem.W.nsIn K mainGlobals "_law_worth" = some (some (.ref f34))) (l34 : K.lookup f34 = some ⟨oc34, od34, .func (PySem.W.fnOf "_law_worth" "_law_worth" (defArgs s__law_worth) (defBody s__law_worth) (defScope s__law_worth) .none kV34 dc34 pm34 an34 cd34 ct34), sl34⟩) (c34 : PySem.W.codeIn K cd34 "_law_worth" = true) (k34 : PySem.W.keepIn K (.ref f34) = true)
    (a35 : PySem.W.nsIn K mainGlobals "law" = some (some (.ref f35))) (l35 : K.lookup f35 = some ⟨oc35, od35, .func (PySem.W.fnOf "law" "law" (defArgs s_law) (defBody s_law) (defScope s_law) .none kV35 dc35 pm35 an35 cd35 ct35), sl35⟩) (c35 : PySem.W.codeIn K cd35 "law" = true) (k35 : PySem.W.keepIn K (.ref f35) = true)
    (z_abs : PySem.W.nsIn K mainGlobals "abs" = some none)
    (z_divmod : PySem.W.nsIn K mainGlobals "divmod" = some none)
    (z_enumerate : PySem.W.nsIn K mainGlobals "enumerate" = some none)
    (z_int : PySem.W.nsIn K mainGlobals "int" = some none)
    (z_isinstance : PySem.W.nsIn K mainGlobals "isinstance" = some none)
    (z_len : PySem.W.nsIn K mainGlobals "len" = some none)
    (z_list : PySem.W.nsIn K mainGlobals "list" = some none)
    (z_max : PySem.W.nsIn K mainGlobals "max" = some none)
    (z_min : PySem.W.nsIn K mainGlobals "min" = some none)
    (z_range : PySem.W.nsIn K mainGlobals "range" = some none)
    (z_set : PySem.W.nsIn K mainGlobals "set" = some none)
    (z_sorted : PySem.W.nsIn K mainGlobals "sorted" = some none)
    (ga_NoPrice : PySem.W.nsIn K mainGlobals "NoPrice" = some (some (.ref C_NoPrice)))
    (ga_NoRatio : PySem.W.nsIn K mainGlobals "NoRatio" = some (some (.ref C_NoRatio))) (gx_NoRatio : PySem.W.excIn K C_NoRatio [.type "ValueError", .type "Exception", .type "BaseException", .type "object"] "ValueError.__new__" = true) (gk_NoRatio : PySem.W.keepIn K (.ref C_NoRatio) = true) (gb_NoRatio : PySem.W.subIn K (.ref C_NoRatio) (.type "BaseException") = some true) (gt_NoRatio : PySem.W.typeIn K (.ref C_NoRatio) = some (.type "type"))
    (ga_PruneError : PySem.W.nsIn K mainGlobals "PruneError" = some (some (.ref C_PruneError)))
    (gb_NoPrice : PySem.W.subIn K (.ref C_NoPrice) (.type "BaseException") = some true) (gt_NoPrice : PySem.W.typeIn K (.ref C_NoPrice) = some (.type "type"))
    {nm_NoPrice q_NoPrice N_NoPrice bs_NoPrice bm_NoPrice sn_NoPrice sub_NoPrice ab_NoPrice col_NoPrice dd_NoPrice u0_NoPrice u1_NoPrice u2_NoPrice u3_NoPrice u5_NoPrice : _} {fI_NoPrice : Addr} {oI_NoPrice : Option Addr} {aI_NoPrice : Option Addr} {sI_NoPrice : Array (Option Value)} {o2_NoPrice v2_NoPrice d2_NoPrice p2_NoPrice c2_NoPrice t2_NoPrice : Value}
    (lc_NoPrice : K.lookup C_NoPrice = some (excClassObj nm_NoPrice q_NoPrice C_NoPrice N_NoPrice bs_NoPrice bm_NoPrice true sn_NoPrice sub_NoPrice ab_NoPrice col_NoPrice dd_NoPrice u0_NoPrice u1_NoPrice u2_NoPrice u3_NoPrice u5_NoPrice "ValueError.__new__")) (rv_NoPrice : PySem.HandSPX.refsVE bm_NoPrice = true)
    (sa_NoPrice : PySem.W.findIn K (.ref C_NoPrice) "__setattr__" = some (some (.builtin "object.__setattr__"))) (gk_NoPrice : PySem.W.keepIn K (.ref C_NoPrice) = true) (no_NoPrice : PySem.W.findIn K (.ref C_NoPrice) "price" = some none)
    (ic_NoPrice : PySem.W.findIn K (.ref C_NoPrice) "__init__" = some (some (.ref fI_NoPrice))) (ti_NoPrice : PySem.W.typeIn K (.ref fI_NoPrice) = some (.type "function"))
    (il_NoPrice : K.lookup fI_NoPrice = some ⟨o2_NoPrice, oI_NoPrice, .func (PySem.W.fnOf "__init__" "NoPrice.__init__" (defArgs s_init_NoPrice) (defBody s_init_NoPrice) (defScope s_init_NoPrice) .none v2_NoPrice d2_NoPrice p2_NoPrice aI_NoPrice c2_NoPrice t2_NoPrice), sI_NoPrice⟩) (ik_NoPrice : PySem.W.codeIn K c2_NoPrice "NoPrice.__init__" = true) (ip_NoPrice : PySem.W.keepIn K (.ref fI_NoPrice) = true)
    (b1_ : PySem.W.specialIn K (.ref C_PruneError) "__getattribute__" = some (some (.builtin "type.__getattribute__"))) (b2_ : PySem.W.readsIn K C_PruneError (.type "type") = true) (b3_ : PySem.W.findCls K (.ref C_PruneError) (.type "type") "__init__" = some (.val (.builtin "ValueError.__init__")))
    (law : LawTrue f_law) : ∃ fd : FuncData, (∀ (s : Shared) (v : Value), BindsTo s fd ⟨[v], []⟩ [("_law_script", v)]) ∧ ∀ base : Heap, K.In base → base.Ns mainGlobals mg → FnOk l.prog w K mg base (L2.CX l.prog w) 71 fa fd ["_law_script"] (spLaw K) := by
  have e := hfa.symm.trans (PySem.W.mg_of X G a35)
  cases e
  let cls : Cl := ⟨fun c => if c = 2 then C_NoPrice else if c = 1 then C_NoRatio else if c = 0 then C_PruneError else 0, none⟩
  have T : Txt K mg cls := ⟨rfl, PySem.W.mg_none_of X G z_abs, PySem.W.mg_none_of X G z_divmod, PySem.W.mg_none_of X G z_enumerate, PySem.W.mg_none_of X G z_int, PySem.W.mg_none_of X G z_isinstance, PySem.W.mg_none_of X G z_len, PySem.W.mg_none_of X G z_list, PySem.W.mg_none_of X G z_max, PySem.W.mg_none_of X G z_min, PySem.W.mg_none_of X G z_range, PySem.W.mg_none_of X G z_set, PySem.W.mg_none_of X G z_sorted, ⟨PySem.W.mg_of X G ga_NoRatio, gx_NoRatio, gk_NoRatio, gb_NoRatio, gt_NoRatio⟩⟩
  have F1 := fun_mk (st := s_shared_by) l1 c1 k1
  have R1 : RawFn K mg "shared_by" s_shared_by ["one", "other"] f1 _ := ⟨F1, PySem.W.mg_of X G a1, F1.binds (ps := ["one", "other"]) fun _ _ _ _ _ _ us hl => match us, hl with | [_, _], _ => rfl⟩
  have F2 := fun_mk (st := s_ratio) l2 c2 k2
  have R2 : RawFn K mg "ratio" s_ratio ["top", "bottom"] f2 _ := ⟨F2, PySem.W.mg_of X G a2, F2.binds (ps := ["top", "bottom"]) fun _ _ _ _ _ _ us hl => match us, hl with | [_, _], _ => rfl⟩
  have F3 := fun_mk (st := s_plus) l3 c3 k3
  have R3 : RawFn K mg "plus" s_plus ["one", "other"] f3 _ := ⟨F3, PySem.W.mg_of X G a3, F3.binds (ps := ["one", "other"]) fun _ _ _ _ _ _ us hl => match us, hl with | [_, _], _ => rfl⟩
  have F4 := fun_mk (st := s_under) l4 c4 k4
  have R4 : RawFn K mg "under" s_under ["one", "other"] f4 _ := ⟨F4, PySem.W.mg_of X G a4, F4.binds (ps := ["one", "other"]) fun _ _ _ _ _ _ us hl => match us, hl with | [_, _], _ => rfl⟩
  have F5 := fun_mk (st := s_joined_rung) l5 c5 k5
  have R5 : RawFn K mg "joined_rung" s_joined_rung ["left", "right", "many"] f5 _ := ⟨F5, PySem.W.mg_of X G a5, F5.binds (ps := ["left", "right", "many"]) fun _ _ _ _ _ _ us hl => match us, hl with | [_, _, _], _ => rfl⟩
  have F6 := fun_mk (st := s_rungs) l6 c6 k6
  have R6 : RawFn K mg "rungs" s_rungs ["tree"] f6 _ := ⟨F6, PySem.W.mg_of X G a6, F6.binds (ps := ["tree"]) fun _ _ _ _ _ _ us hl => match us, hl with | [_], _ => rfl⟩
  have F7 := fun_mk (st := s_ladder) l7 c7 k7
  have R7 : RawFn K mg "ladder" s_ladder ["tree"] f7 _ := ⟨F7, PySem.W.mg_of X G a7, F7.binds (ps := ["tree"]) fun _ _ _ _ _ _ us hl => match us, hl with | [_], _ => rfl⟩
  have F8 := fun_mk (st := s_first_point) l8 c8 k8
  have R8 : RawFn K mg "first_point" s_first_point ["points"] f8 _ := ⟨F8, PySem.W.mg_of X G a8, F8.binds (ps := ["points"]) fun _ _ _ _ _ _ us hl => match us, hl with | [_], _ => rfl⟩
  have F9 := fun_mk (st := s_minus) l9 c9 k9
  have R9 : RawFn K mg "minus" s_minus ["one", "other"] f9 _ := ⟨F9, PySem.W.mg_of X G a9, F9.binds (ps := ["one", "other"]) fun _ _ _ _ _ _ us hl => match us, hl with | [_, _], _ => rfl⟩
  have F10 := fun_mk (st := s_over) l10 c10 k10
  have R10 : RawFn K mg "over" s_over ["one", "other"] f10 _ := ⟨F10, PySem.W.mg_of X G a10, F10.binds (ps := ["one", "other"]) fun _ _ _ _ _ _ us hl => match us, hl with | [_, _], _ => rfl⟩
  have F11 := fun_mk (st := s_next_point) l11 c11 k11
  have R11 : RawFn K mg "next_point" s_next_point ["points", "here"] f11 _ := ⟨F11, PySem.W.mg_of X G a11, F11.binds (ps := ["points", "here"]) fun _ _ _ _ _ _ us hl => match us, hl with | [_, _], _ => rfl⟩
  have F12 := fun_mk (st := s_corners) l12 c12 k12
  have R12 : RawFn K mg "corners" s_corners ["points"] f12 _ := ⟨F12, PySem.W.mg_of X G a12, F12.binds (ps := ["points"]) fun _ _ _ _ _ _ us hl => match us, hl with | [_], _ => rfl⟩
  have F13 := fun_mk (st := s_best_under) l13 c13 k13
  have R13 : RawFn K mg "best_under" s_best_under ["tree", "price", "place"] f13 _ := ⟨F13, PySem.W.mg_of X G a13, F13.binds (ps := ["tree", "price", "place"]) fun _ _ _ _ _ _ us hl => match us, hl with | [_, _, _], _ => rfl⟩
  have F14 := fun_mk (st := s_cheapest) l14 c14 k14
  have R14 : RawFn K mg "cheapest" s_cheapest ["tree", "price"] f14 _ := ⟨F14, PySem.W.mg_of X G a14, F14.binds (ps := ["tree", "price"]) fun _ _ _ _ _ _ us hl => match us, hl with | [_, _], _ => rfl⟩
  have F15 := fun_mk (st := s_linked_under) l15 c15 k15
  have R15 : RawFn K mg "linked_under" s_linked_under ["tree", "places", "place"] f15 _ := ⟨F15, PySem.W.mg_of X G a15, F15.binds (ps := ["tree", "places", "place"]) fun _ _ _ _ _ _ us hl => match us, hl with | [_, _, _], _ => rfl⟩
  have F16 := fun_mk (st := s_all_links) l16 c16 k16
  have R16 : RawFn K mg "all_links" s_all_links ["tree", "places"] f16 _ := ⟨F16, PySem.W.mg_of X G a16, F16.binds (ps := ["tree", "places"]) fun _ _ _ _ _ _ us hl => match us, hl with | [_, _], _ => rfl⟩
  have F17 := fun_mk (st := s_tops_of) l17 c17 k17
  have R17 : RawFn K mg "tops_of" s_tops_of ["places", "place"] f17 _ := ⟨F17, PySem.W.mg_of X G a17, F17.binds (ps := ["places", "place"]) fun _ _ _ _ _ _ us hl => match us, hl with | [_, _], _ => rfl⟩
  have F18 := fun_mk (st := s_cut) l18 c18 k18
  have R18 : RawFn K mg "cut" s_cut ["places", "places_of_forks"] f18 _ := ⟨F18, PySem.W.mg_of X G a18, F18.binds (ps := ["places", "places_of_forks"]) fun _ _ _ _ _ _ us hl => match us, hl with | [_, _], _ => rfl⟩
  have F19 := fun_mk (st := s_least_link) l19 c19 k19
  have R19 : RawFn K mg "least_link" s_least_link ["linked"] f19 _ := ⟨F19, PySem.W.mg_of X G a19, F19.binds (ps := ["linked"]) fun _ _ _ _ _ _ us hl => match us, hl with | [_], _ => rfl⟩
  have F20 := fun_mk (st := s_path) l20 c20 k20
  have R20 : RawFn K mg "path" s_path ["tree"] f20 _ := ⟨F20, PySem.W.mg_of X G a20, F20.binds (ps := ["tree"]) fun _ _ _ _ _ _ us hl => match us, hl with | [_], _ => rfl⟩
  have F21 := fun_mk (st := s_for_price) l21 c21 k21
  have R21 : RawFn K mg "for_price" s_for_price ["steps", "price"] f21 _ := ⟨F21, PySem.W.mg_of X G a21, F21.binds (ps := ["steps", "price"]) fun _ _ _ _ _ _ us hl => match us, hl with | [_, _], _ => rfl⟩
  have F22 := fun_mk (st := s__law_cell) l22 c22 k22
  have R22 : RawFn K mg "_law_cell" s__law_cell ["_law_script", "_law_k"] f22 _ := ⟨F22, PySem.W.mg_of X G a22, F22.binds (ps := ["_law_script", "_law_k"]) fun _ _ _ _ _ _ us hl => match us, hl with | [_, _], _ => rfl⟩
  have F23 := fun_mk (st := s__law_next) l23 c23 k23
  have R23 : RawFn K mg "_law_next" s__law_next ["_law_cell_here", "_law_k"] f23 _ := ⟨F23, PySem.W.mg_of X G a23, F23.binds (ps := ["_law_cell_here", "_law_k"]) fun _ _ _ _ _ _ us hl => match us, hl with | [_, _], _ => rfl⟩
  have F24 := fun_mk (st := s__law_ratio) l24 c24 k24
  have R24 : RawFn K mg "_law_ratio" s__law_ratio ["_law_top", "_law_bottom"] f24 _ := ⟨F24, PySem.W.mg_of X G a24, F24.binds (ps := ["_law_top", "_law_bottom"]) fun _ _ _ _ _ _ us hl => match us, hl with | [_, _], _ => rfl⟩
  have F25 := fun_mk (st := s__law_joined) l25 c25 k25
  have R25 : RawFn K mg "_law_joined" s__law_joined ["_law_pile", "_law_gain"] f25 _ := ⟨F25, PySem.W.mg_of X G a25, F25.binds (ps := ["_law_pile", "_law_gain"]) fun _ _ _ _ _ _ us hl => match us, hl with | [_, _], _ => rfl⟩
  have F26 := fun_mk (st := s__law_tree) l26 c26 k26
  have R26 : RawFn K mg "_law_tree" s__law_tree ["_law_cells", "_law_scale"] f26 _ := ⟨F26, PySem.W.mg_of X G a26, F26.binds (ps := ["_law_cells", "_law_scale"]) fun _ _ _ _ _ _ us hl => match us, hl with | [_, _], _ => rfl⟩
  have F27 := fun_mk (st := s__law_digit) l27 c27 k27
  have R27 : RawFn K mg "_law_digit" s__law_digit ["_law_bag", "_law_many"] f27 _ := ⟨F27, PySem.W.mg_of X G a27, F27.binds (ps := ["_law_bag", "_law_many"]) fun _ _ _ _ _ _ us hl => match us, hl with | [_, _], _ => rfl⟩
  have F28 := fun_mk (st := s__law_grown) l28 c28 k28
  have R28 : RawFn K mg "_law_grown" s__law_grown ["_law_bag", "_law_left", "_law_scale"] f28 _ := ⟨F28, PySem.W.mg_of X G a28, F28.binds (ps := ["_law_bag", "_law_left", "_law_scale"]) fun _ _ _ _ _ _ us hl => match us, hl with | [_, _, _], _ => rfl⟩
  have F29 := fun_mk (st := s__law_handed) l29 c29 k29
  have R29 : RawFn K mg "_law_handed" s__law_handed ["_law_tree_here", "_law_bottom"] f29 _ := ⟨F29, PySem.W.mg_of X G a29, F29.binds (ps := ["_law_tree_here", "_law_bottom"]) fun _ _ _ _ _ _ us hl => match us, hl with | [_, _], _ => rfl⟩
  have F30 := fun_mk (st := s__law_drawn) l30 c30 k30
  have R30 : RawFn K mg "_law_drawn" s__law_drawn ["_law_tree_here", "_law_place", "_law_cell_here"] f30 _ := ⟨F30, PySem.W.mg_of X G a30, F30.binds (ps := ["_law_tree_here", "_law_place", "_law_cell_here"]) fun _ _ _ _ _ _ us hl => match us, hl with | [_, _, _], _ => rfl⟩
  have F31 := fun_mk (st := s__law_sum) l31 c31 k31
  have R31 : RawFn K mg "_law_sum" s__law_sum ["_law_tree_here", "_law_places"] f31 _ := ⟨F31, PySem.W.mg_of X G a31, F31.binds (ps := ["_law_tree_here", "_law_places"]) fun _ _ _ _ _ _ us hl => match us, hl with | [_, _], _ => rfl⟩
  have F32 := fun_mk (st := s__law_ends) l32 c32 k32
  have R32 : RawFn K mg "_law_ends" s__law_ends ["_law_tree_here", "_law_place"] f32 _ := ⟨F32, PySem.W.mg_of X G a32, F32.binds (ps := ["_law_tree_here", "_law_place"]) fun _ _ _ _ _ _ us hl => match us, hl with | [_, _], _ => rfl⟩
  have F33 := fun_mk (st := s__law_is_pruning) l33 c33 k33
  have R33 : RawFn K mg "_law_is_pruning" s__law_is_pruning ["_law_tree_here", "_law_places"] f33 _ := ⟨F33, PySem.W.mg_of X G a33, F33.binds (ps := ["_law_tree_here", "_law_places"]) fun _ _ _ _ _ _ us hl => match us, hl with | [_, _], _ => rfl⟩
  have F34 := fun_mk (st := s__law_worth) l34 c34 k34
  have R34 : RawFn K mg "_law_worth" s__law_worth ["_law_top", "_law_leaves", "_law_bottom", "_law_price"] f34 _ := ⟨F34, PySem.W.mg_of X G a34, F34.binds (ps := ["_law_top", "_law_leaves", "_law_bottom", "_law_price"]) fun _ _ _ _ _ _ us hl => match us, hl with | [_, _, _, _], _ => rfl⟩
  have F35 := fun_mk (st := s_law) l35 c35 k35
  have R35 : RawFn K mg "law" s_law ["_law_script"] fa _ := ⟨F35, PySem.W.mg_of X G a35, F35.binds (ps := ["_law_script"]) fun _ _ _ _ _ _ us hl => match us, hl with | [_], _ => rfl⟩
  refine ⟨PySem.W.fnOf "law" "law" (defArgs s_law) (defBody s_law) (defScope s_law) .none kV35 dc35 pm35 an35 cd35 ct35, fun s v => .of_eq rfl, fun base _ _ => ?_⟩
  have FI_NoPrice := fun_mk (st := s_init_NoPrice) il_NoPrice ik_NoPrice ip_NoPrice
  have O_NoPrice : OexC K C_NoPrice := ⟨⟨_, _, _, _, _, _, _, _, _, _, _, _, _, _, _, lc_NoPrice, rv_NoPrice⟩, sa_NoPrice, gb_NoPrice, gt_NoPrice, gk_NoPrice⟩
  have I_NoPrice : ExI l.prog w K mg base (cls 2) "NoPrice" "price" := ⟨O_NoPrice, PySem.W.mg_of X G ga_NoPrice, _, _, ["self", "price"], ic_NoPrice, ti_NoPrice, init_fn FI_NoPrice sc_init_NoPrice O_NoPrice no_NoPrice (fun cdv A outer s H E => init_body rfl (by first | exact Or.inl rfl | exact Or.inr (Or.inl rfl)) (by first | exact Or.inl rfl | exact Or.inr (Or.inl rfl)) (by rfl) (PySem.W.mg_of X G ga_PruneError) ⟨b1_, b2_, b3_⟩), FI_NoPrice.binds (ps := ["self", "price"]) fun _ _ _ _ _ _ us hl => match us, hl with | [_, _], _ => rfl⟩
  have A_shared_by := ok_shared_by (P := l.prog) (w := w) (base := base) T R1
  have A_ratio := ok_ratio (P := l.prog) (w := w) (base := base) T R2 (A_shared_by)
  have A_plus := ok_plus (P := l.prog) (w := w) (base := base) T R3 (A_ratio)
  have A_under := ok_under (P := l.prog) (w := w) (base := base) T R4
  have A_joined_rung := ok_joined_rung (P := l.prog) (w := w) (base := base) T R5 (A_plus) (A_under)
  have A_rungs := ok_rungs (P := l.prog) (w := w) (base := base) T R6 (A_joined_rung)
  have A_ladder := ok_ladder (P := l.prog) (w := w) (base := base) T R7 (A_rungs 64)
  have A_first_point := ok_first_point (P := l.prog) (w := w) (base := base) T R8 (A_under)
  have A_minus := ok_minus (P := l.prog) (w := w) (base := base) T R9 (A_ratio)
  have A_over := ok_over (P := l.prog) (w := w) (base := base) T R10 (A_ratio)
  have A_next_point := ok_next_point (P := l.prog) (w := w) (base := base) T R11 (A_ratio) (A_minus) (A_over) (A_under)
  have A_corners := ok_corners (P := l.prog) (w := w) (base := base) T R12 (A_first_point) (A_next_point)
  have A_best_under := ok_best_under (P := l.prog) (w := w) (base := base) T R13 (A_plus) (A_under)
  have A_cheapest := ok_cheapest (P := l.prog) (w := w) (base := base) T R14 (A_best_under 64) I_NoPrice
  have A_linked_under := ok_linked_under (P := l.prog) (w := w) (base := base) T R15 (A_plus) (A_minus) (A_over)
  have A_all_links := ok_all_links (P := l.prog) (w := w) (base := base) T R16 (A_linked_under 64)
  have A_tops_of := ok_tops_of (P := l.prog) (w := w) (base := base) T R17
  have A_cut := ok_cut (P := l.prog) (w := w) (base := base) T R18 (A_tops_of)
  have A_least_link := ok_least_link (P := l.prog) (w := w) (base := base) T R19 (A_under)
  have A_path := ok_path (P := l.prog) (w := w) (base := base) T R20 (A_cheapest) (A_all_links) (A_cut) (A_least_link)
  have A_for_price := ok_for_price (P := l.prog) (w := w) (base := base) T R21 (A_under) I_NoPrice
  have A__law_cell := ok__law_cell (P := l.prog) (w := w) (base := base) T R22
  have A__law_next := ok__law_next (P := l.prog) (w := w) (base := base) T R23
  have A__law_ratio := ok__law_ratio (P := l.prog) (w := w) (base := base) T R24
  have A__law_joined := ok__law_joined (P := l.prog) (w := w) (base := base) T R25
  have A__law_tree := ok__law_tree (P := l.prog) (w := w) (base := base) T R26 (A__law_joined)
  have A__law_digit := ok__law_digit (P := l.prog) (w := w) (base := base) T R27
  have A__law_grown := ok__law_grown (P := l.prog) (w := w) (base := base) T R28 (A__law_digit)
  have A__law_handed := ok__law_handed (P := l.prog) (w := w) (base := base) T R29 (A__law_ratio)
  have A__law_drawn := ok__law_drawn (P := l.prog) (w := w) (base := base) T R30 (A__law_next)
  have A__law_sum := ok__law_sum (P := l.prog) (w := w) (base := base) T R31
  have A__law_ends := ok__law_ends (P := l.prog) (w := w) (base := base) T R32
  have A__law_is_pruning := ok__law_is_pruning (P := l.prog) (w := w) (base := base) T R33 (A__law_ends 64)
  have A__law_worth := ok__law_worth (P := l.prog) (w := w) (base := base) T R34
  exact (ok_law (P := l.prog) (w := w) (base := base) T R35 (A_ladder) (A_corners) (A_path) (A_for_price) (A__law_cell) (A__law_next) (A__law_ratio) (A__law_tree) (A__law_grown 64) (A__law_handed 64) (A__law_drawn 64) (A__law_sum) (A__law_is_pruning) (A__law_worth)).imp (law_imp rfl law)
end Law
end PF
open PySem PySem.W PyProof.Rows
set_option maxRecDepth 100000 in
set_option maxHeartbeats 0 in
theorem PySem.Challenge.cw_prunepath_k41_whole_ladder_meets_path_holds : PySem.Challenge.rw_prunepath_k41_whole_ladder_meets_path.Holds := by
  w_on; o_law; k_head; (case hw => w_witness2)
  k_fill
  refine L2.walk_of (l := PySem.Challenge.rw_prunepath_k41_whole_ladder_meets_path) (n := 63) (k := 71) (x := "_law_script") (CX := fun w => L2.CX PySem.Challenge.rw_prunepath_k41_whole_ladder_meets_path.prog w) (sp := fun w => PF.spLaw _) rfl (by decide) rfl ⟨rfl, by decide, by decide⟩ (fun w h Y => PySem.W.kIn_of Y) ?F (fun w H a ns hl hO hS => PF.spLaw_of H a ns hl hO hS) (fun w H s e s' h => PF.cx_none H s e s' h)
  case F =>
    intro w mg fa h KX G hmg
    refine' PF.Law.all_mk KX G hmg ?a1 ?l1 ?c1 ?k1 ?a2 ?l2 ?c2 ?k2 ?a3 ?l3 ?c3 ?k3 ?a4 ?l4 ?c4 ?k4 ?a5 ?l5 ?c5 ?k5 ?a6 ?l6 ?c6 ?k6 ?a7 ?l7 ?c7 ?k7 ?a8 ?l8 ?c8 ?k8 ?a9 ?l9 ?c9 ?k9 ?a10 ?l10 ?c10 ?k10 ?a11 ?l11 ?c11 ?k11 ?a12 ?l12 ?c12 ?k12 ?a13 ?l13 ?c13 ?k13 ?a14 ?l14 ?c14 ?k14 ?a15 ?l15 ?c15 ?k15 ?a16 ?l16 ?c16 ?k16 ?a17 ?l17 ?c17 ?k17 ?a18 ?l18 ?c18 ?k18 ?a19 ?l19 ?c19 ?k19 ?a20 ?l20 ?c20 ?k20 ?a21 ?l21 ?c21 ?k21 ?a22 ?l22 ?c22 ?k22 ?a23 ?l23 ?c23 ?k23 ?a24 ?l24 ?c24 ?k24 ?a25 ?l25 ?c25 ?k25 ?a26 ?l26 ?c26 ?k26 ?a27 ?l27 ?c27 ?k27 ?a28 ?l28 ?c28 ?k28 ?a29 ?l29 ?c29 ?k29 ?a30 ?l30 ?c30 ?k30 ?a31 ?l31 ?c31 ?k31 ?a32 ?l32 ?c32 ?k32 ?a33 ?l33 ?c33 ?k33 ?a34 ?l34 ?c34 ?k34 ?a35 ?l35 ?c35 ?k35 ?z_abs ?z_divmod ?z_enumerate ?z_int ?z_isinstance ?z_len ?z_list ?z_max ?z_min ?z_range ?z_set ?z_sorted ?ga_NoPrice ?ga_NoRatio ?gx_NoRatio ?gk_NoRatio ?gb_NoRatio ?gt_NoRatio ?ga_PruneError ?gb_NoPrice ?gt_NoPrice ?lc_NoPrice ?rv_NoPrice ?sa_NoPrice ?gk_NoPrice ?no_NoPrice ?ic_NoPrice ?ti_NoPrice ?il_NoPrice ?ik_NoPrice ?ip_NoPrice ?b1_ ?b2_ ?b3_ PF.Law.law_true
    (case a1 => k_is)
    (case l1 => k_is)
    (case c1 => k_is)
    (case k1 => k_is)
    (case a2 => k_is)
    (case l2 => k_is)
    (case c2 => k_is)
    (case k2 => k_is)
    (case a3 => k_is)
    (case l3 => k_is)
    (case c3 => k_is)
    (case k3 => k_is)
    (case a4 => k_is)
    (case l4 => k_is)
    (case c4 => k_is)
    (case k4 => k_is)
    (case a5 => k_is)
    (case l5 => k_is)
    (case c5 => k_is)
    (case k5 => k_is)
    (case a6 => k_is)
    (case l6 => k_is)
    (case c6 => k_is)
    (case k6 => k_is)
    (case a7 => k_is)
    (case l7 => k_is)
    (case c7 => k_is)
    (case k7 => k_is)
    (case a8 => k_is)
    (case l8 => k_is)
    (case c8 => k_is)
    (case k8 => k_is)
    (case a9 => k_is)
    (case l9 => k_is)
    (case c9 => k_is)
    (case k9 => k_is)
    (case a10 => k_is)
    (case l10 => k_is)
    (case c10 => k_is)
    (case k10 => k_is)
    (case a11 => k_is)
    (case l11 => k_is)
    (case c11 => k_is)
    (case k11 => k_is)
    (case a12 => k_is)
    (case l12 => k_is)
    (case c12 => k_is)
    (case k12 => k_is)
    (case a13 => k_is)
    (case l13 => k_is)
    (case c13 => k_is)
    (case k13 => k_is)
    (case a14 => k_is)
    (case l14 => k_is)
    (case c14 => k_is)
    (case k14 => k_is)
    (case a15 => k_is)
    (case l15 => k_is)
    (case c15 => k_is)
    (case k15 => k_is)
    (case a16 => k_is)
    (case l16 => k_is)
    (case c16 => k_is)
    (case k16 => k_is)
    (case a17 => k_is)
    (case l17 => k_is)
    (case c17 => k_is)
    (case k17 => k_is)
    (case a18 => k_is)
    (case l18 => k_is)
    (case c18 => k_is)
    (case k18 => k_is)
    (case a19 => k_is)
    (case l19 => k_is)
    (case c19 => k_is)
    (case k19 => k_is)
    (case a20 => k_is)
    (case l20 => k_is)
    (case c20 => k_is)
    (case k20 => k_is)
    (case a21 => k_is)
    (case l21 => k_is)
    (case c21 => k_is)
    (case k21 => k_is)
    (case a22 => k_is)
    (case l22 => k_is)
    (case c22 => k_is)
    (case k22 => k_is)
    (case a23 => k_is)
    (case l23 => k_is)
    (case c23 => k_is)
    (case k23 => k_is)
    (case a24 => k_is)
    (case l24 => k_is)
    (case c24 => k_is)
    (case k24 => k_is)
    (case a25 => k_is)
    (case l25 => k_is)
    (case c25 => k_is)
    (case k25 => k_is)
    (case a26 => k_is)
    (case l26 => k_is)
    (case c26 => k_is)
    (case k26 => k_is)
    (case a27 => k_is)
    (case l27 => k_is)
    (case c27 => k_is)
    (case k27 => k_is)
    (case a28 => k_is)
    (case l28 => k_is)
    (case c28 => k_is)
    (case k28 => k_is)
    (case a29 => k_is)
    (case l29 => k_is)
    (case c29 => k_is)
    (case k29 => k_is)
    (case a30 => k_is)
    (case l30 => k_is)
    (case c30 => k_is)
    (case k30 => k_is)
    (case a31 => k_is)
    (case l31 => k_is)
    (case c31 => k_is)
    (case k31 => k_is)
    (case a32 => k_is)
    (case l32 => k_is)
    (case c32 => k_is)
    (case k32 => k_is)
    (case a33 => k_is)
    (case l33 => k_is)
    (case c33 => k_is)
    (case k33 => k_is)
    (case a34 => k_is)
    (case l34 => k_is)
    (case c34 => k_is)
    (case k34 => k_is)
    (case a35 => k_is)
    (case l35 => k_is)
    (case c35 => k_is)
    (case k35 => k_is)
    (case z_abs => k_is)
    (case z_divmod => k_is)
    (case z_enumerate => k_is)
    (case z_int => k_is)
    (case z_isinstance => k_is)
    (case z_len => k_is)
    (case z_list => k_is)
    (case z_max => k_is)
    (case z_min => k_is)
    (case z_range => k_is)
    (case z_set => k_is)
    (case z_sorted => k_is)
    (case ga_NoPrice => k_is)
    (case ga_NoRatio => k_is)
    (case gx_NoRatio => k_exc)
    (case gk_NoRatio => k_is)
    (case gb_NoRatio => k_is)
    (case gt_NoRatio => k_is)
    (case ga_PruneError => k_is)
    (case gb_NoPrice => k_is)
    (case gt_NoPrice => k_is)
    (case lc_NoPrice => k_is)
    (case rv_NoPrice => first | rfl | decide +kernel)
    (case sa_NoPrice => k_is)
    (case gk_NoPrice => k_is)
    (case no_NoPrice => k_is)
    (case ic_NoPrice => k_is)
    (case ti_NoPrice => k_is)
    (case il_NoPrice => k_is)
    (case ik_NoPrice => k_is)
    (case ip_NoPrice => k_is)
    (case b1_ => k_is)
    (case b2_ => k_is)
    (case b3_ => k_is)
