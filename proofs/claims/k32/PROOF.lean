import PyProof.Rows.All
import Wide.All
import OpenK.AllK
import Wide.FinOn
import HandS.ForExc
import HandS.ForMost
import HandS.Wide
import HandS.WideBits
import HandS.Defaults
import HandS.IsInst
import HandS.TupAny
import HandS.Text
import HandS.WordsDict
import HandS.ExcIs
import HandS.ExcField
import HandS.Small
import HandS.Deep
import HandS.Style
import HandS.ExcInit
import HandS.RevRange
import HandS.More
import HandS.Walk
import KE.KSortTupG
import PyProof.Rows.SortStr
import PyProof.Rows.SortShellAny
import HandS.SortKw
import KE.DatumOrd
import PySem.Challenge.RW_prunepath_k32_a_path_step_by_step
set_option Elab.async false
set_option linter.all false
set_option maxRecDepth 100000
set_option maxHeartbeats 4000000
set_option exponentiation.threshold 30000
namespace PF

/-- values: tuples are values, lists, dicts, instances stand in the store -/
inductive W where
  | non | bl (b : Bool) | int (i : Int) | str (s : List Nat) | tup (ws : List W) | fl (ws : List W) | ref (i : Nat) | err | errF (f : List Nat) (w : W) | obj (c : Nat) (ns : List (List Nat)) (ws : List W)
  deriving Inhabited

mutual
def W.eqB : W → W → Bool
  | .non, .non => true
  | .bl a, .bl b => a == b
  | .int a, .int b => a == b
  | .str a, .str b => a == b
  | .tup a, .tup b => W.eqL a b
  | .fl a, .fl b => W.eqL a b
  | .ref a, .ref b => a == b
  | .err, .err => true
  | .errF f a, .errF g b => f == g && W.eqB a b
  | .obj c ns a, .obj d ms b => c == d && (ns == ms && W.eqL a b)
  | _, _ => false
def W.eqL : List W → List W → Bool
  | [], [] => true
  | a :: as, b :: bs => W.eqB a b && W.eqL as bs
  | _, _ => false
end
mutual
theorem W.eqB_iff : ∀ a b : W, W.eqB a b = true ↔ a = b
  | .non, b => by cases b <;> simp [W.eqB]
  | .bl a, b => by cases b <;> simp [W.eqB]
  | .int a, b => by cases b <;> simp [W.eqB]
  | .str a, b => by cases b <;> simp [W.eqB]
  | .ref a, b => by cases b <;> simp [W.eqB]
  | .err, b => by cases b <;> simp [W.eqB]
  | .errF f a, b => by cases b <;> simp [W.eqB, W.eqB_iff a]
  | .tup a, b => by cases b <;> simp [W.eqB, W.eqL_iff a]
  | .fl a, b => by cases b <;> simp [W.eqB, W.eqL_iff a]
  | .obj c ns a, b => by cases b <;> simp [W.eqB, W.eqL_iff a]
theorem W.eqL_iff : ∀ a b : List W, W.eqL a b = true ↔ a = b
  | [], b => by cases b <;> simp [W.eqL]
  | a :: as, b => by cases b <;> simp [W.eqL, W.eqB_iff a, W.eqL_iff as]
end
instance : DecidableEq W := fun a b => if h : W.eqB a b = true then .isTrue ((W.eqB_iff a b).1 h) else .isFalse fun e => h ((W.eqB_iff a b).2 e)

abbrev Key := Sum Int (List Nat)
inductive Cell where
  | lst (ws : List W)
  | dct (kvs : List (Key × W))
  | ins (c : Nat) (fs : List (List Nat × W))
  deriving DecidableEq

abbrev Hs := List Cell
abbrev Env := List (Option W)
/-- what an exception carries: its text alone, or one field -/
abbrev Pay := Option (List Nat × W)
inductive Res (α : Type) where
  | ok (a : α) (h : Hs)
  | exc (c : Nat) (p : Pay) (h : Hs)
  | stuck
def Res.bind {α β : Type} (r : Res α) (k : α → Hs → Res β) : Res β := match r with
  | .ok a h => k a h
  | .exc c p h => .exc c p h
  | .stuck => .stuck
def Res.noX {α : Type} (r : Res α) : Res α := match r with
  | .ok a h => .ok a h
  | _ => .stuck
@[simp] theorem Res.noX_ok {α : Type} (a : α) (h : Hs) : (Res.ok a h).noX = .ok a h := (rfl)
@[simp] theorem Res.bind_ok {α β : Type} (a : α) (h : Hs) (k : α → Hs → Res β) : (Res.ok a h).bind k = k a h := (rfl)
@[simp] theorem Res.bind_exc {α β : Type} (c : Nat) (p : Pay) (h : Hs) (k : α → Hs → Res β) : (Res.exc c p h).bind k = .exc c p h := (rfl)
@[simp] theorem Res.bind_stuck {α β : Type} (k : α → Hs → Res β) : (Res.stuck : Res α).bind k = .stuck := (rfl)
inductive Out where
  | nx (ρ : Env) (h : Hs)
  | ret (w : W) (h : Hs)
  | bk (ρ : Env) (h : Hs)
  | ct (ρ : Env) (h : Hs)
  | exc (c : Nat) (p : Pay) (ρ : Env) (h : Hs)
  | stuck
abbrev D := Env → Hs → Res W
abbrev T := Env → Hs → Res Bool
abbrev As := Env → Hs → Res (List W)
abbrev Sm := Env → Hs → Out
abbrev Fn := List W → Hs → Res W

/-! ### expressions -/
def dV (i : Nat) : D := fun ρ h => match ρ[i]? with
  | some (some w) => .ok w h
  | _ => .stuck
def dC (w : W) : D := fun _ h => .ok w h
def dBin (o : W → W → Hs → Res W) (a b : D) : D := fun ρ h => (a ρ h).bind fun x h1 => (b ρ h1).bind fun y h2 => o x y h2
def dUn (o : W → Hs → Res W) (a : D) : D := fun ρ h => (a ρ h).bind fun x h1 => o x h1
/-- a op b op' c -/
def dChain (o o' : W → W → Hs → Res W) (a b c : D) : D := fun ρ h => (a ρ h).bind fun x h1 => (b ρ h1).bind fun y h2 => (o x y h2).bind fun z h3 => match z with
  | .bl true => (c ρ h3).bind fun x' h4 => o' y x' h4
  | .bl false => .ok (.bl false) h3
  | _ => .stuck
def asB {α : Type} (w : W) (k : Bool → Res α) : Res α := match w with
  | .bl b => k b
  | _ => .stuck
@[simp] theorem asB_bl {α : Type} (b : Bool) (k : Bool → Res α) : asB (.bl b) k = k b := (rfl)
def dAnd (a b : D) : D := fun ρ h => (a ρ h).bind fun x h1 => asB x fun c => if c = true then b ρ h1 else .ok (.bl false) h1
def dOr (a b : D) : D := fun ρ h => (a ρ h).bind fun x h1 => asB x fun c => if c = true then .ok (.bl true) h1 else b ρ h1
def dNot (a : D) : D := fun ρ h => (a ρ h).bind fun x h1 => asB x fun c => .ok (.bl (!c)) h1
def tVal (a : D) : T := fun ρ h => (a ρ h).bind fun x h1 => asB x fun c => .ok c h1
def tAnd (a b : T) : T := fun ρ h => (a ρ h).bind fun c h1 => if c = true then b ρ h1 else .ok false h1
def tOr (a b : T) : T := fun ρ h => (a ρ h).bind fun c h1 => if c = true then .ok true h1 else b ρ h1
def tNot (a : T) : T := fun ρ h => (a ρ h).bind fun c h1 => .ok (!c) h1
def dIf (t : T) (a b : D) : D := fun ρ h => (t ρ h).bind fun c h1 => if c = true then a ρ h1 else b ρ h1
def aNil : As := fun _ h => .ok [] h
def aCons (a : D) (as : As) : As := fun ρ h => (a ρ h).bind fun x h1 => (as ρ h1).bind fun xs h2 => .ok (x :: xs) h2
/-- the largest length -/
def bigL : Nat := 16777216
def dTup (as : As) : D := fun ρ h => (as ρ h).bind fun xs h1 => if xs.length ≤ bigL then .ok (.tup xs) h1 else .stuck
def newL (xs : List W) (h : Hs) : Res W := .ok (.ref h.length) (h ++ [.lst xs])
def dLst (as : As) : D := fun ρ h => (as ρ h).bind fun xs h1 => if xs.length ≤ bigL then newL xs h1 else .stuck
def dDct : D := fun _ h => .ok (.ref h.length) (h ++ [.dct []])
def dCall (f : Fn) (as : As) : D := fun ρ h => (as ρ h).bind fun xs h1 => f xs h1
def dMet (o : W → List W → Hs → Res W) (a : D) (as : As) : D := fun ρ h => (a ρ h).bind fun x h1 => (as ρ h1).bind fun xs h2 => o x xs h2

/-! ### targets -/
inductive Tg where
  | n (i : Nat)
  | t (gs : List Tg)
mutual
def Tg.run : Tg → W → Env → Option Env
  | .n i, w, ρ => if i < ρ.length then some (ρ.set i (some w)) else none
  | .t gs, .tup ws, ρ => Tg.runs gs ws ρ
  | .t _, _, _ => none
def Tg.runs : List Tg → List W → Env → Option Env
  | [], [], ρ => some ρ
  | g :: gs, w :: ws, ρ => (Tg.run g w ρ).bind fun ρ1 => Tg.runs gs ws ρ1
  | _, _, _ => none
end
mutual
def Tg.ids : Tg → List Nat
  | .n i => [i]
  | .t gs => Tg.idss gs
def Tg.idss : List Tg → List Nat
  | [] => []
  | g :: gs => Tg.ids g ++ Tg.idss gs
end

/-! ### statements -/
def sNx : Sm := fun ρ h => .nx ρ h
def sSeq (a b : Sm) : Sm := fun ρ h => match a ρ h with
  | .nx ρ1 h1 => b ρ1 h1
  | r => r
def onR {α : Type} (r : Res α) (ρ : Env) (k : α → Hs → Out) : Out := match r with
  | .ok a h => k a h
  | .exc c p h => .exc c p ρ h
  | .stuck => .stuck
@[simp] theorem onR_ok {α : Type} (a : α) (h : Hs) (ρ : Env) (k : α → Hs → Out) : onR (.ok a h) ρ k = k a h := (rfl)
@[simp] theorem onR_exc {α : Type} (c : Nat) (p : Pay) (h : Hs) (ρ : Env) (k : α → Hs → Out) : onR (.exc c p h) ρ k = .exc c p ρ h := (rfl)
@[simp] theorem onR_stuck {α : Type} (ρ : Env) (k : α → Hs → Out) : onR (.stuck : Res α) ρ k = .stuck := (rfl)
def onO (o : Option Env) (k : Env → Out) : Out := match o with
  | some ρ => k ρ
  | none => .stuck
@[simp] theorem onO_some (ρ : Env) (k : Env → Out) : onO (some ρ) k = k ρ := (rfl)
@[simp] theorem onO_none (k : Env → Out) : onO none k = .stuck := (rfl)
def sExp (d : D) : Sm := fun ρ h => onR (d ρ h) ρ fun _ h1 => .nx ρ h1
def sRet (d : D) : Sm := fun ρ h => onR (d ρ h) ρ fun w h1 => .ret w h1
def sRetN : Sm := fun _ h => .ret .non h
def sAsg (d : D) (g : Tg) : Sm := fun ρ h => onR (d ρ h) ρ fun w h1 => onO (g.run w ρ) fun ρ1 => .nx ρ1 h1
/-- x op= e -/
def sAug (i : Nat) (o : W → W → Hs → Res W) (d : D) : Sm := fun ρ h => match ρ[i]? with
  | some (some x) => onR ((d ρ h).bind fun y h1 => o x y h1) ρ fun z h2 => .nx (ρ.set i (some z)) h2
  | _ => .stuck
def sIf (t : T) (a b : Sm) : Sm := fun ρ h => onR (t ρ h) ρ fun c h1 => if c = true then a ρ h1 else b ρ h1
def sBrk : Sm := fun ρ h => .bk ρ h
def sCnt : Sm := fun ρ h => .ct ρ h
/-- o[i] = e -/
def sSub (d o i : D) (st : W → W → W → Hs → Option Hs) : Sm := fun ρ h => onR (d ρ h) ρ fun v h1 => onR (o ρ h1) ρ fun x h2 => onR (i ρ h2) ρ fun y h3 => match st x y v h3 with
  | some h4 => .nx ρ h4
  | none => .stuck
/-- raise C('..') -/
def sRaise (c : Nat) : Sm := fun ρ h => .exc c none ρ h
/-- raise C(e), the error keeps e in a field -/
def sRaiseF (c : Nat) (name : List Nat) (d : D) : Sm := fun ρ h => onR (d ρ h) ρ fun w h1 => .exc c (some (name, w)) ρ h1

/-- what a list or a tuple at hand holds -/
def seqOf (w : W) (h : Hs) : Option (List W) := match w with
  | .tup ws => some ws
  | .fl ws => some ws
  | .ref i => match h[i]? with
    | some (.lst ws) => some ws
    | _ => none
  | _ => none
def lstOf (w : W) (h : Hs) : Option (List W) := match w with
  | .fl ws => some ws
  | .ref i => match h[i]? with
    | some (.lst ws) => some ws
    | _ => none
  | _ => none
/-- what is walked: the items, the lists that must stay -/
abbrev It := List W × List (W × List W)
def stays (g : List (W × List W)) (h : Hs) : Bool := g.all fun p => decide (lstOf p.1 h = some p.2)
abbrev I := Env → Hs → Res It
def forL (g : List (W × List W)) (tg : Tg) (b : Sm) : List W → Env → Hs → Out
  | [], ρ, h => if stays g h = true then .nx ρ h else .stuck
  | w :: ws, ρ, h => if stays g h = true then onO (tg.run w ρ) fun ρ1 => match b ρ1 h with
      | .nx ρ2 h2 => forL g tg b ws ρ2 h2
      | .ct ρ2 h2 => forL g tg b ws ρ2 h2
      | .bk ρ2 h2 => .nx ρ2 h2
      | r => r
    else .stuck
def sFor (it : I) (tg : Tg) (b : Sm) : Sm := fun ρ h => onR (it ρ h) ρ fun J h1 => forL J.2 tg b J.1 ρ h1
def iLst (d : D) : I := fun ρ h => (d ρ h).bind fun w h1 => match lstOf w h1 with
  | some ws => .ok (ws, [(w, ws)]) h1
  | none => .stuck
def iTup (d : D) : I := fun ρ h => (d ρ h).bind fun w h1 => match w with
  | .tup ws => .ok (ws, []) h1
  | _ => .stuck
/-- a list, a tuple, a text -/
def iAny (d : D) : I := fun ρ h => (d ρ h).bind fun w h1 => match w with
  | .tup ws => .ok (ws, []) h1
  | .str s => .ok (s.map fun c => .str [c], []) h1
  | .fl ws => .ok (ws, [(.fl ws, ws)]) h1
  | .ref i => match h1[i]? with
    | some (.lst ws) => .ok (ws, [(.ref i, ws)]) h1
    | _ => .stuck
  | _ => .stuck
def iStr (d : D) : I := fun ρ h => (d ρ h).bind fun w h1 => match w with
  | .str s => .ok (s.map fun c => .str [c], []) h1
  | _ => .stuck
def rngW (lo : Int) (n : Nat) : List W := (List.range n).map fun (k : Nat) => W.int (lo + k)
def rOK (i : Int) : Prop := -(2 ^ 62) ≤ i ∧ i < 2 ^ 62
instance (i : Int) : Decidable (rOK i) := inferInstanceAs (Decidable (_ ∧ _))
def iRng1 (d : D) : I := fun ρ h => (d ρ h).bind fun w h1 => match w with
  | .int j => if rOK j then .ok (rngW 0 j.toNat, []) h1 else .stuck
  | _ => .stuck
def iRng2 (d e : D) : I := fun ρ h => (d ρ h).bind fun w h1 => (e ρ h1).bind fun v h2 => match w, v with
  | .int i, .int j => if rOK i ∧ rOK j then .ok (rngW i (j - i).toNat, []) h2 else .stuck
  | _, _ => .stuck
def enumW (k : Nat) : List W → List W
  | [] => []
  | w :: ws => .tup [.int k, w] :: enumW (k + 1) ws
def iEnum (d : D) : I := fun ρ h => (d ρ h).bind fun w h1 => match lstOf w h1 with
  | some ws => .ok (enumW 0 ws, [(w, ws)]) h1
  | none => .stuck
def iRev (d : D) : I := fun ρ h => (d ρ h).bind fun w h1 => match lstOf w h1 with
  | some ws => .ok (ws.reverse, [(w, ws)]) h1
  | none => .stuck
def zipW : List W → List W → List W
  | a :: as, b :: bs => .tup [a, b] :: zipW as bs
  | _, _ => []
def iZip (d e : D) : I := fun ρ h => (d ρ h).bind fun w h1 => (e ρ h1).bind fun v h2 => match lstOf w h2, lstOf v h2 with
  | some ws, some vs => .ok (zipW ws vs, [(w, ws), (v, vs)]) h2
  | _, _ => .stuck

/-- while: at most n turns -/
def whileF (t : T) (b : Sm) : Nat → Env → Hs → Out
  | 0, _, _ => .stuck
  | n + 1, ρ, h => onR (t ρ h) ρ fun c h1 => if c = true then (match b ρ h1 with
      | .nx ρ2 h2 => whileF t b n ρ2 h2
      | .ct ρ2 h2 => whileF t b n ρ2 h2
      | .bk ρ2 h2 => .nx ρ2 h2
      | r => r) else .nx ρ h1
@[irreducible] def FUEL : Nat := 2 ^ 20000
def sWhile (t : T) (b : Sm) : Sm := whileF t b FUEL

/-- a comprehension's turns: the list so far stands at D -/
def compL (g : List (W × List W)) (dl : Nat) (tg : Tg) (t : T) (e : D) : List W → Env → Hs → Res W
  | [], _, h => if stays g h = true then .ok (.ref dl) h else .stuck
  | w :: ws, ρ, h => if stays g h = true then match tg.run w ρ with
      | some ρ1 => (t ρ1 h).noX.bind fun c h1 => if c = true then (e ρ1 h1).noX.bind fun y h2 => match h2[dl]? with
          | some (.lst acc) => if acc.length < bigL then compL g dl tg t e ws ρ (h2.set dl (.lst (acc ++ [y]))) else .stuck
          | _ => .stuck
        else compL g dl tg t e ws ρ h1
      | none => .stuck
    else .stuck
def wipe (ρ : Env) : List Nat → Env
  | [] => ρ
  | i :: is => (wipe ρ is).set i none
def dComp (it : I) (tg : Tg) (t : T) (e : D) (own : List Nat) : D := fun ρ h => (it ρ h).bind fun J h1 => compL J.2 h1.length tg t e J.1 (wipe ρ own) (h1 ++ [.lst []])
def tYes : T := fun _ h => .ok true h

/-! ### a def -/
def endF : Out → Res W
  | .nx _ h => .ok .non h
  | .ret w h => .ok w h
  | .exc c p _ h => .exc c p h
  | _ => .stuck
/-- ps parameters, n slots -/
def mkF (ps n : Nat) (b : Sm) : Fn := fun ws h => if ws.length = ps then endF (b (ws.map some ++ List.replicate (n - ps) none) h) else .stuck

mutual
def W.pure : W → Bool
  | .ref _ => false
  | .err => false
  | .errF _ _ => false
  | .tup ws => W.pures ws
  | .fl ws => W.pures ws
  | .obj _ _ ws => W.pures ws
  | _ => true
def W.pures : List W → Bool
  | [] => true
  | w :: ws => W.pure w && W.pures ws
end
def Pay.pure : Pay → Bool
  | none => true
  | some (_, w) => w.pure
def mapO {α β : Type} (f : α → Option β) : List α → Option (List β)
  | [] => some []
  | a :: as => (f a).bind fun b => (mapO f as).bind fun bs => some (b :: bs)
def Cell.pure : Cell → Bool
  | .lst ws => W.pures ws
  | .dct kvs => W.pures (kvs.map Prod.snd)
  | .ins _ fs => W.pures (fs.map Prod.snd)
/-- lists from n on become values -/
def fzW (h : Hs) (n : Nat) : Nat → W → Option W
  | 0, w => if w.pure = true then some w else match w with
    | .ref i => if i < n then some w else none
    | _ => none
  | d + 1, w => if w.pure = true then some w else match w with
    | .ref i => if i < n then some w else match h[i]? with
      | some (.lst ws) => (mapO (fzW h n d) ws).map .fl
      | _ => none
    | .tup ws => (mapO (fzW h n d) ws).map .tup
    | .fl ws => (mapO (fzW h n d) ws).map .fl
    | .obj c ns ws => (mapO (fzW h n d) ws).map (.obj c ns)
    | _ => none
/-- what stood ahead is as it was, or plain -/
def tame (h h' : Hs) : Bool := decide (h.length ≤ h'.length) && (List.range h.length).all fun i => decide (h'[i]? = h[i]?) || (match h'[i]? with
  | some c => c.pure
  | none => false)
/-- what a call has made becomes a value; what nobody holds is forgotten: h, the store ahead of it -/
def gc (h : Hs) : Res W → Res W
  | .ok w h' => if tame h h' = true then (match fzW h' h.length 60 w with
      | some w' => .ok w' (h'.take h.length)
      | none => .ok w h') else .ok w h'
  | .exc c p h' => if tame h h' = true ∧ p.pure = true then .exc c p (h'.take h.length) else .exc c p h'
  | .stuck => .stuck
/-- .. but a new list, the call's own answer, stays a list at hand -/
def gcL (h : Hs) : Res W → Res W
  | .ok (.ref i) h' => if tame h h' = true ∧ h.length ≤ i then (match h'[i]? with
      | some (.lst ws) => (match mapO (fzW (h'.set i (.dct [])) h.length 60) ws with
        | some ws' => .ok (.ref h.length) (h'.take h.length ++ [.lst ws'])
        | none => .ok (.ref i) h')
      | _ => .ok (.ref i) h') else .ok (.ref i) h'
  | .ok w h' => gc h (.ok w h')
  | .exc c p h' => gc h (.exc c p h')
  | .stuck => .stuck
def dGz (d : D) : D := fun ρ h => gc h (d ρ h)
def defF (ps n : Nat) (b : Sm) : Fn := fun ws h => gc h (mkF ps n b ws h)
def defL (ps n : Nat) (b : Sm) : Fn := fun ws h => gcL h (mkF ps n b ws h)

/-! ### operations -/
def mulOK (i j : Int) : Prop := i.natAbs.log2 + j.natAbs.log2 < 1000000 ∨ i.natAbs < 2 ^ 64 ∨ j.natAbs < 2 ^ 64
instance (i j : Int) : Decidable (mulOK i j) := inferInstanceAs (Decidable (_ ∨ _))
def limbs (i : Int) : Nat := if i == 0 then 0 else i.natAbs.log2 / 30 + 1
def divOK (i j : Int) : Prop := j ≠ 0 ∧ (decide (limbs j > 300) && decide (limbs i > limbs j + 150)) = false
instance (i j : Int) : Decidable (divOK i j) := inferInstanceAs (Decidable (_ ∧ _))
def powOK (i j : Int) : Prop := 0 ≤ j ∧ j ≤ 1000000 ∧ i.natAbs < 2 ^ 64
instance (i j : Int) : Decidable (powOK i j) := inferInstanceAs (Decidable (_ ∧ _))
def oAdd : W → W → Hs → Res W
  | .int i, .int j, h => .ok (.int (i + j)) h
  | .str a, .str b, h => if a.length + b.length ≤ bigL then .ok (.str (a ++ b)) h else .stuck
  | .ref i, .ref j, h => match h[i]?, h[j]? with
    | some (.lst a), some (.lst b) => if a.length + b.length ≤ bigL then newL (a ++ b) h else .stuck
    | _, _ => .stuck
  | .fl a, .fl b, h => if a.length + b.length ≤ bigL then newL (a ++ b) h else .stuck
  | .fl a, .ref j, h => match h[j]? with
    | some (.lst b) => if a.length + b.length ≤ bigL then newL (a ++ b) h else .stuck
    | _ => .stuck
  | .ref i, .fl b, h => match h[i]? with
    | some (.lst a) => if a.length + b.length ≤ bigL then newL (a ++ b) h else .stuck
    | _ => .stuck
  | .tup a, .tup b, h => if a ≠ [] ∧ b ≠ [] ∧ a.length + b.length ≤ bigL then .ok (.tup (a ++ b)) h else .stuck
  | _, _, _ => .stuck
def oAddI : W → W → Hs → Res W
  | .int i, .int j, h => .ok (.int (i + j)) h
  | _, _, _ => .stuck
def oSub : W → W → Hs → Res W
  | .int i, .int j, h => .ok (.int (i - j)) h
  | _, _, _ => .stuck
def oMul : W → W → Hs → Res W
  | .int i, .int j, h => if mulOK i j then .ok (.int (i * j)) h else .stuck
  | .str s, .int i, h => if 1 ≤ i ∧ i ≤ 1000 ∧ s.length ≤ 1000 then .ok (.str (List.replicate i.toNat s).flatten) h else .stuck
  | _, _, _ => .stuck
def oDiv : W → W → Hs → Res W
  | .int i, .int j, h => if divOK i j then .ok (.int (i.fdiv j)) h else .stuck
  | _, _, _ => .stuck
def oMod : W → W → Hs → Res W
  | .int i, .int j, h => if j ≠ 0 then .ok (.int (i.fmod j)) h else .stuck
  | _, _, _ => .stuck
def oPow : W → W → Hs → Res W
  | .int i, .int j, h => if powOK i j then .ok (.int (i ^ j.toNat)) h else .stuck
  | _, _, _ => .stuck
def oNeg : W → Hs → Res W
  | .int i, h => .ok (.int (-i)) h
  | _, _ => .stuck
/-- texts by their signs -/
def strLt : List Nat → List Nat → Bool
  | _, [] => false
  | [], _ :: _ => true
  | a :: as, b :: bs => decide (a < b) || (a == b && strLt as bs)
def oLt : W → W → Hs → Res W
  | .int i, .int j, h => .ok (.bl (decide (i < j))) h
  | .str a, .str b, h => .ok (.bl (decide (a < b))) h
  | _, _, _ => .stuck
def oLe : W → W → Hs → Res W
  | .int i, .int j, h => .ok (.bl (decide (i ≤ j))) h
  | _, _, _ => .stuck
def oGt : W → W → Hs → Res W
  | .int i, .int j, h => .ok (.bl (decide (j < i))) h
  | .str a, .str b, h => .ok (.bl (decide (b < a))) h
  | _, _, _ => .stuck
def oGe : W → W → Hs → Res W
  | .int i, .int j, h => .ok (.bl (decide (j ≤ i))) h
  | .str a, .str b, h => .ok (.bl (!decide (a < b))) h
  | _, _, _ => .stuck
def oIsN : W → Hs → Res W
  | w, h => .ok (.bl (decide (w = .non))) h
def oNotN : W → Hs → Res W
  | w, h => .ok (.bl (!decide (w = .non))) h

/-- data at hand, to some depth -/
inductive Da where
  | non | bl (b : Bool) | int (i : Int) | str (s : List Nat) | lst (ds : List Da) | tup (ds : List Da)
mutual
def Da.eqB : Da → Da → Bool
  | .non, .non => true
  | .bl a, .bl b => a == b
  | .bl a, .int j => (if a then 1 else 0) == j
  | .int i, .bl b => i == (if b then 1 else 0)
  | .int a, .int b => a == b
  | .str a, .str b => a == b
  | .lst a, .lst b => Da.eqL a b
  | .tup a, .tup b => Da.eqL a b
  | _, _ => false
def Da.eqL : List Da → List Da → Bool
  | [], [] => true
  | a :: as, b :: bs => Da.eqB a b && Da.eqL as bs
  | _, _ => false
end
/-- n: how deep it is read -/
def daOf (h : Hs) : Nat → W → Option Da
  | _, .non => some .non
  | _, .bl b => some (.bl b)
  | _, .int i => some (.int i)
  | _, .str s => some (.str s)
  | n + 1, .tup ws => (mapO (daOf h n) ws).map Da.tup
  | n + 1, .fl ws => (mapO (daOf h n) ws).map Da.lst
  | n + 1, .ref i => match h[i]? with
    | some (.lst ws) => (mapO (daOf h n) ws).map Da.lst
    | _ => none
  | _, _ => none
end PF
namespace PF
/-! ### subscripts, slices, built-ins -/
def ixW (n : Nat) (i : Int) : Option Nat := if 0 ≤ i then (if i < n then some i.toNat else none) else if -(n : Int) ≤ i then some (i + n).toNat else none
def atW {α : Type} (xs : List α) (i : Int) : Option α := (ixW xs.length i).bind fun j => xs[j]?
def okO (o : Option W) (h : Hs) : Res W := match o with
  | some w => .ok w h
  | none => .stuck
@[simp] theorem okO_some (w : W) (h : Hs) : okO (some w) h = .ok w h := (rfl)
def lookK (kvs : List (Key × W)) (k : Key) : Option W := match kvs with
  | [] => none
  | (k', w) :: r => if k' = k then some w else lookK r k
def putK (kvs : List (Key × W)) (k : Key) (w : W) : List (Key × W) :=
  if (kvs.any fun p => decide (p.1 = k)) = true then kvs.map (fun p => if p.1 = k then (p.1, w) else p) else kvs ++ [(k, w)]
def keyOf : W → Option Key
  | .int i => some (.inl i)
  | .str s => some (.inr s)
  | _ => none
def oIx : W → W → Hs → Res W
  | .tup ws, .int i, h => okO (atW ws i) h
  | .fl ws, .int i, h => okO (atW ws i) h
  | .ref r, .int i, h => match h[r]? with
    | some (.lst ws) => okO (atW ws i) h
    | some (.dct kvs) => okO (lookK kvs (.inl i)) h
    | _ => .stuck
  | .ref r, .str z, h => match h[r]? with
    | some (.dct kvs) => okO (lookK kvs (.inr z)) h
    | _ => .stuck
  | .str s, .int i, h => if s.length ≤ bigL then okO ((atW s i).map fun c => .str [c]) h else .stuck
  | _, _, _ => .stuck
def dctOf (w : W) (h : Hs) : Option (List (Key × W)) := match w with
  | .ref i => match h[i]? with
    | some (.dct kvs) => some kvs
    | _ => none
  | _ => none
def sIxW (n d : Nat) : Option Int → Nat
  | none => d
  | some v => if v < 0 then (v + (n : Int)).toNat else min v.toNat n
def cutW {α : Type} (xs : List α) (lo hi : Option Int) : List α := (xs.drop (sIxW xs.length 0 lo)).take (sIxW xs.length xs.length hi - sIxW xs.length 0 lo)
def oSl : W → Option Int → Option Int → Hs → Res W
  | .tup ws, lo, hi, h => .ok (.tup (cutW ws lo hi)) h
  | .fl ws, lo, hi, h => newL (cutW ws lo hi) h
  | .ref r, lo, hi, h => match h[r]? with
    | some (.lst ws) => newL (cutW ws lo hi) h
    | _ => .stuck
  | .str s, lo, hi, h => if s.length ≤ bigL then .ok (.str (cutW s lo hi)) h else .stuck
  | _, _, _, _ => .stuck
abbrev P := Env → Hs → Res (Option Int)
def pNo : P := fun _ h => .ok none h
def pAt (d : D) : P := fun ρ h => (d ρ h).bind fun w h1 => match w with
  | .int i => .ok (some i) h1
  | _ => .stuck
def dSl (a : D) (lo hi : P) : D := fun ρ h => (a ρ h).bind fun x h1 => (lo ρ h1).bind fun l h2 => (hi ρ h2).bind fun u h3 => oSl x l u h3
def bAbs : Fn
  | [.int i], h => .ok (.int (if i < 0 then -i else i)) h
  | _, _ => .stuck
def bMax2 : Fn
  | [.int i, .int j], h => .ok (.int (if j > i then j else i)) h
  | _, _ => .stuck
def bMin2 : Fn
  | [.int i, .int j], h => .ok (.int (if j < i then j else i)) h
  | _, _ => .stuck
def bLen : Fn
  | [.tup ws], h => .ok (.int ws.length) h
  | [.fl ws], h => .ok (.int ws.length) h
  | [.str s], h => if s.length ≤ bigL then .ok (.int s.length) h else .stuck
  | [.ref r], h => match h[r]? with
    | some (.lst ws) => .ok (.int ws.length) h
    | some (.dct kvs) => .ok (.int kvs.length) h
    | _ => .stuck
  | _, _ => .stuck
def bDivmod : Fn
  | [.int i, .int j], h => if divOK i j then .ok (.tup [.int (i.fdiv j), .int (i.fmod j)]) h else .stuck
  | _, _ => .stuck
def bInt : Fn
  | [.int i], h => .ok (.int i) h
  | [.bl b], h => .ok (.int (if b then 1 else 0)) h
  | _, _ => .stuck
def bList : Fn
  | [w], h => match seqOf w h with
    | some ws => newL ws h
    | none => .stuck
  | _, _ => .stuck
def bTuple : Fn
  | [.tup ws], h => .ok (.tup ws) h
  | [w], h => match lstOf w h with
    | some ws => .ok (.tup ws) h
    | none => .stuck
  | _, _ => .stuck
def intsOf : List W → Option (List Int)
  | [] => some []
  | .int i :: ws => (intsOf ws).map fun is => i :: is
  | _ :: _ => none
def blsOf : List W → Option (List Bool)
  | [] => some []
  | .bl i :: ws => (blsOf ws).map fun is => i :: is
  | _ :: _ => none
def strsOf : List W → Option (List (List Nat))
  | [] => some []
  | .str i :: ws => (strsOf ws).map fun is => i :: is
  | _ :: _ => none
def bSum : Fn
  | [w], h => match (lstOf w h).bind intsOf with
    | some is => .ok (.int is.sum) h
    | none => .stuck
  | _, _ => .stuck
def bAll : Fn
  | [w], h => match (lstOf w h).bind blsOf with
    | some is => .ok (.bl (is.all id)) h
    | none => .stuck
  | _, _ => .stuck
def bAny : Fn
  | [w], h => match (lstOf w h).bind blsOf with
    | some is => .ok (.bl (is.any id)) h
    | none => .stuck
  | _, _ => .stuck
def keysS : List (Key × W) → Option (List (List Nat))
  | [] => some []
  | (.inr s, _) :: r => (keysS r).map fun ss => s :: ss
  | _ :: _ => none
def keysI : List (Key × W) → Option (List Int)
  | [] => some []
  | (.inl s, _) :: r => (keysI r).map fun ss => s :: ss
  | _ :: _ => none
def sortI (is : List Int) : List Int := is.mergeSort fun a b => decide (a ≤ b)
/-- texts by their signs -/
def sortS (ss : List (List Nat)) : List (List Nat) := ss.mergeSort fun a b => decide (a ≤ b)
/-- the greatest of a list that holds one -/
def maxI : List Int → Int
  | [] => 0
  | i :: is => is.foldl max i
def minI : List Int → Int
  | [] => 0
  | i :: is => is.foldl min i
def bMax : Fn
  | [w], h => match (lstOf w h).bind intsOf with
    | some (i :: is) => .ok (.int (maxI (i :: is))) h
    | _ => .stuck
  | _, _ => .stuck
def bMin : Fn
  | [w], h => match (lstOf w h).bind intsOf with
    | some (i :: is) => .ok (.int (minI (i :: is))) h
    | _ => .stuck
  | _, _ => .stuck
/-- two texts -/
abbrev Pr := List Nat × List Nat
def lePr (a b : Pr) : Bool := decide (a.1 < b.1) || (decide (a.1 = b.1) && decide (a.2 ≤ b.2))
def sortP (ps : List Pr) : List Pr := ps.mergeSort lePr
def prW (p : Pr) : W := .tup [.str p.1, .str p.2]
def asPr : W → Option Pr
  | .tup [.str a, .str b] => some (a, b)
  | _ => none
def prsOf : List W → Option (List Pr)
  | [] => some []
  | w :: ws => (asPr w).bind fun p => (prsOf ws).map fun ps => p :: ps
def bSorted : Fn
  | [w], h => match dctOf w h with
    | some kvs => (match keysS kvs with
      | some ss => if ss.length < 64 then newL ((sortS ss).map .str) h else .stuck
      | none => match keysI kvs with
        | some is => if is.length < 64 then newL ((sortI is).map .int) h else .stuck
        | none => .stuck)
    | none => match (lstOf w h).bind strsOf with
      | some ss => newL ((sortS ss).map .str) h
      | none => match (lstOf w h).bind prsOf with
        | some ps => newL ((sortP ps).map prW) h
        | none => .stuck
  | _, _ => .stuck
/-- each once -/
def nub {α : Type} [DecidableEq α] : List α → List α
  | [] => []
  | a :: l => if a ∈ l then nub l else a :: nub l
/-- sorted(set(l)) -/
def bSortSet : Fn
  | [w], h => match lstOf w h with
    | some ws => if ws.length < 4000 then (match strsOf ws with
      | some ss => newL ((sortS (nub ss)).map .str) h
      | none => match intsOf ws with
        | some is => newL ((sortI (nub is)).map .int) h
        | none => .stuck) else .stuck
    | none => .stuck
  | _, _ => .stuck
/-- len(set(l)) -/
def bLenSet : Fn
  | [w], h => match lstOf w h with
    | some ws => if ws.length < 4000 then (match strsOf ws with
      | some ss => .ok (.int (nub ss).length) h
      | none => match intsOf ws with
        | some is => .ok (.int (nub is).length) h
        | none => .stuck) else .stuck
    | none => .stuck
  | _, _ => .stuck
/-- max(l, default=d) -/
def oMaxD : W → W → Hs → Res W
  | w, .int d, h => match (lstOf w h).bind intsOf with
    | some (i :: is) => .ok (.int (maxI (i :: is))) h
    | some [] => .ok (.int d) h
    | none => .stuck
  | _, _, _ => .stuck
/-! ### kinds -/
inductive Ty where
  | int | bool | str | tuple | list
  deriving DecidableEq
/-- isinstance(w, kind) -/
def isTy (t : Ty) (w : W) (h : Hs) : Option Bool := match w with
  | .non => some false
  | .bl _ => some (decide (t = .bool) || decide (t = .int))
  | .int _ => some (decide (t = .int))
  | .str _ => some (decide (t = .str))
  | .tup _ => some (decide (t = .tuple))
  | .fl _ => some (decide (t = .list))
  | .ref i => match h[i]? with
    | some (.lst _) => some (decide (t = .list))
    | some (.dct _) => some false
    | _ => none
  | .err => none
  | .errF _ _ => none
  | .obj _ _ _ => none
def oIs (t : Ty) : W → Hs → Res W := fun w h => match isTy t w h with
  | some b => .ok (.bl b) h
  | none => .stuck
/-! ### equality, membership -/
/-- how deep lists stand in lists -/
def deepest : Nat := 60
def eqW (w u : W) (h : Hs) : Option Bool := match daOf h deepest w, daOf h deepest u with
  | some d, some e => some (Da.eqB d e)
  | _, _ => none
def oEq : W → W → Hs → Res W := fun w u h => match eqW w u h with
  | some b => .ok (.bl b) h
  | none => .stuck
def oNe : W → W → Hs → Res W := fun w u h => match eqW w u h with
  | some b => .ok (.bl (!b)) h
  | none => .stuck
/-! ### try .. except -/
/-- behind an except suite of the form «except X as e»: it has returned a plain value -/
def onT (h : Hs) : Out → Out
  | .ret w h' => if w.pure = true ∧ tame h h' = true then .ret w (h'.take h.length) else .stuck
  | _ => .stuck
/-- the caught error as a value: with its field, if it bears one -/
def errOf : Pay → W
  | none => .err
  | some (f, w) => .errF f w
/-- try .. except X as e (slot i), the suite returns; L: the classes that may come; tk: which of them X takes; su: the suite, by the class -/
def sTryA (L : List Nat) (i : Nat) (tk : Nat → Bool) (b : Sm) (su : Nat → Sm) : Sm := fun ρ h => match b ρ h with
  | .exc c p ρ1 h1 => if c ∈ L ∧ i < ρ1.length then (if tk c = true then onT h1 (su c (ρ1.set i (some (errOf p))) h1) else .exc c p ρ1 h1) else .stuck
  | r => r
/-- try .. except X -/
def sTryO (L : List Nat) (tk : Nat → Bool) (b : Sm) (su : Sm) : Sm := fun ρ h => match b ρ h with
  | .exc c p ρ1 h1 => if c ∈ L then (if tk c = true then (match su ρ1 h1 with
      | .exc _ _ _ _ => .stuck
      | r => r) else .exc c p ρ1 h1) else .stuck
  | r => r
/-- isinstance of the caught error at slot i: the answer is known by its class -/
def dEr (i : Nat) (b : Bool) : D := fun ρ h => match ρ[i]? with
  | some (some .err) => .ok (.bl b) h
  | some (some (.errF _ _)) => .ok (.bl b) h
  | _ => .stuck
/-- the field of the caught error at slot i -/
def dFd (i : Nat) (f : List Nat) : D := fun ρ h => match ρ[i]? with
  | some (some (.errF g w)) => if g = f then .ok w h else .stuck
  | _ => .stuck
/-! ### methods, stores, membership -/
inductive Kd where
  | lst | str | dct
  deriving DecidableEq
def kdOf (w : W) (h : Hs) : Option Kd := match w with
  | .fl _ => some .lst
  | .str _ => some .str
  | .ref i => match h[i]? with
    | some (.lst _) => some .lst
    | some (.dct _) => some .dct
    | some _ => none
    | none => none
  | _ => none
def dMeth (k : Kd) (m : W → List W → Hs → Res W) (a : D) (as : As) : D := fun ρ h => (a ρ h).bind fun x h1 => if kdOf x h1 = some k then (as ρ h1).bind fun xs h2 => m x xs h2 else .stuck
def mAppend : W → List W → Hs → Res W
  | .ref i, [w], h => match h[i]? with
    | some (.lst ws) => if ws.length < bigL then .ok .non (h.set i (.lst (ws ++ [w]))) else .stuck
    | _ => .stuck
  | _, _, _ => .stuck
def mClear : W → List W → Hs → Res W
  | .ref i, [], h => match h[i]? with
    | some (.lst _) => .ok .non (h.set i (.lst []))
    | _ => .stuck
  | _, _, _ => .stuck
def mPop : W → List W → Hs → Res W
  | .ref i, [], h => match h[i]? with
    | some (.lst ws) => match ws[ws.length - 1]? with
      | some w => .ok w (h.set i (.lst ws.dropLast))
      | none => .stuck
    | _ => .stuck
  | _, _, _ => .stuck
def mExtend : W → List W → Hs → Res W
  | .ref i, [.fl b], h => match h[i]? with
    | some (.lst a) => if a.length + b.length ≤ bigL then .ok .non (h.set i (.lst (a ++ b))) else .stuck
    | _ => .stuck
  | .ref i, [.ref j], h => match h[i]?, h[j]? with
    | some (.lst a), some (.lst b) => if a.length + b.length ≤ bigL then .ok .non (h.set i (.lst (a ++ b))) else .stuck
    | _, _ => .stuck
  | _, _, _ => .stuck
def stL (w u y : W) (h : Hs) : Option Hs := match w with
  | .ref i => match h[i]? with
    | some (.lst ws) => (match u with
      | .int k => (ixW ws.length k).map fun j => h.set i (.lst (ws.set j y))
      | _ => none)
    | some (.dct kvs) => (keyOf u).bind fun k => if kvs.length < bigL then some (h.set i (.dct (putK kvs k y))) else none
    | _ => none
  | _ => none
/-- an item of a list at hand, from its start -/
def ixL (x y : W) (h : Hs) : Option W := match x, y with
  | .ref i, .int k => match h[i]? with
    | some (.lst ws) => if 0 ≤ k then ws[k.toNat]? else none
    | _ => none
  | _, _ => none
/-- xs[i] op= e -/
def sAugX (o : W → W → Hs → Res W) (da db de : D) : Sm := fun ρ h => onR (da ρ h) ρ fun x h1 => onR (db ρ h1) ρ fun y h2 => match ixL x y h2 with
  | some u => onR (de ρ h2) ρ fun v h4 => onR (o u v h4) ρ fun z h5 => match stL x y z h5 with
    | some h6 => .nx ρ h6
    | none => .stuck
  | none => .stuck
/-- {} -/
def dDct0 : D := fun _ h => .ok (.ref h.length) (h ++ [.dct []])
def mGet : W → List W → Hs → Res W
  | .ref i, [u, y], h => match h[i]? with
    | some (.dct kvs) => (match keyOf u with
      | some k => .ok ((lookK kvs k).getD y) h
      | none => .stuck)
    | _ => .stuck
  | _, _, _ => .stuck
/-- i & 1 -/
def oBitAnd : W → W → Hs → Res W
  | .int i, .int j, h => if j = 1 then .ok (.int (i % 2)) h else .stuck
  | _, _, _ => .stuck
/-- i >> j -/
def oShr : W → W → Hs → Res W
  | .int i, .int j, h => if 0 ≤ j then .ok (.int (i / 2 ^ j.toNat)) h else .stuck
  | _, _, _ => .stuck
/-- a, b = x, y with two names -/
def sPar (i j : Nat) (as : As) : Sm := fun ρ h => onR (as ρ h) ρ fun ws h1 => match ws with
  | [v, w] => if i < ρ.length ∧ j < ρ.length then .nx ((ρ.set i (some v)).set j (some w)) h1 else .stuck
  | _ => .stuck
def mStarts : W → List W → Hs → Res W
  | .str a, [.str b], h => .ok (.bl (decide (b.length ≤ a.length) && (a.take b.length == b))) h
  | _, _, _ => .stuck
/-- == of flat values -/
def eqF : W → W → Option Bool
  | .non, .non => some true
  | .bl a, .bl b => some (a == b)
  | .bl a, .int b => some ((if a then 1 else 0) == b)
  | .int a, .bl b => some (a == (if b then 1 else 0))
  | .int a, .int b => some (a == b)
  | .str a, .str b => some (a == b)
  | .non, .bl _ => some false
  | .non, .int _ => some false
  | .non, .str _ => some false
  | .bl _, .non => some false
  | .bl _, .str _ => some false
  | .int _, .non => some false
  | .int _, .str _ => some false
  | .str _, .non => some false
  | .str _, .bl _ => some false
  | .str _, .int _ => some false
  | _, _ => none
def flatF : W → Bool
  | .non => true
  | .bl _ => true
  | .int _ => true
  | .str _ => true
  | _ => false
def inF (w : W) : List W → Option Bool
  | [] => some false
  | u :: us => match eqF u w, inF w us with
    | some a, some b => some (a || b)
    | _, _ => none
def anyD (d : Da) (ds : List Da) : Bool := ds.any fun z => Da.eqB z d
/-- is it in there -/
def inA (w u : W) (h : Hs) : Option Bool := match dctOf u h with
  | some kvs => (keyOf w).map fun k => (lookK kvs k).isSome
  | none => if flatF w = true then (seqOf u h).bind (inF w) else match daOf h deepest w, daOf h deepest u with
    | some d, some (.lst ds) => some (anyD d ds)
    | _, _ => none
def oIn : W → W → Hs → Res W
  | .str [c], .str z, h => .ok (.bl (decide (c ∈ z))) h
  | w, u, h => match inA w u h with
    | some b => .ok (.bl b) h
    | none => .stuck
def oNin : W → W → Hs → Res W
  | .str [c], .str z, h => .ok (.bl (!decide (c ∈ z))) h
  | w, u, h => match inA w u h with
    | some b => .ok (.bl (!b)) h
    | none => .stuck
def dRev (a : D) : D := fun ρ h => (a ρ h).bind fun w h1 => match lstOf w h1 with
  | some ws => newL ws.reverse h1
  | none => .stuck
end PF
namespace PF
/-! ### reversed(range(n)), l.insert(i, x), [d[k] for k in d] -/
def rngRev (n : Nat) : List W := (List.range n).map fun (k : Nat) => W.int ((n : Int) - 1 - k)
def iRevR (d : D) : I := fun ρ h => (d ρ h).bind fun w h1 => match w with
  | .int j => if rOK j then .ok (rngRev j.toNat, []) h1 else .stuck
  | _ => .stuck
def mInsert : W → List W → Hs → Res W
  | .ref i, [.int k, w], h => match h[i]? with
    | some (.lst ws) => if ws.length < bigL ∧ 0 ≤ k ∧ k < 2 ^ 62 then .ok .non (h.set i (.lst (ws.take k.toNat ++ [w] ++ ws.drop k.toNat))) else .stuck
    | _ => .stuck
  | _, _, _ => .stuck
/-- the values of the dict at slot i; the key's own slot k -/
def dVals (i k : Nat) : D := fun ρ h => match ρ[i]? with
  | some (some (.ref r)) => match h[r]? with
    | some (.dct kvs) => if kvs.length < bigL ∧ i ≠ k ∧ k < ρ.length then (match mapO (fun p : Key × W => lookK kvs p.1) kvs with
      | some ws => newL ws h
      | none => .stuck) else .stuck
    | _ => .stuck
  | _ => .stuck
/-- (i, ..) < (j, ..): whole numbers -/
def lexI : List Int → List Int → Bool
  | [], [] => false
  | [], _ :: _ => true
  | _ :: _, [] => false
  | x :: xs, y :: ys => if x = y then lexI xs ys else decide (x < y)
def oLtT : W → W → Hs → Res W
  | .tup ws, .tup us, h => match intsOf ws, intsOf us with
    | some ns, some ms => .ok (.bl (lexI ns ms)) h
    | _, _ => .stuck
  | _, _, _ => .stuck
end PF
namespace PF
/-! ### instances that nobody changes: o.f, isinstance(o, C), o.m(..), C(..) -/
def lookF (f : List Nat) : List (List Nat) → List W → Option W
  | n :: ns, w :: ws => if n = f then some w else lookF f ns ws
  | _, _ => none
/-- the attribute f of an instance of one of the classes L -/
def oFld (L : List Nat) (f : List Nat) : W → Hs → Res W
  | .obj c ns ws, h => if c ∈ L then (match lookF f ns ws with
    | some w => .ok w h
    | none => .stuck) else .stuck
  | _, _ => .stuck
/-- isinstance of an own class, told by the class -/
def oIsC (T : List (Nat × Bool)) : W → Hs → Res W
  | .obj c _ _, h => match T.lookup c with
    | some b => .ok (.bl b) h
    | none => .stuck
  | _, _ => .stuck
/-- o.m(..), by the class -/
def dMth (m : List Nat) (M : List (Nat × Fn)) (d : D) (as : As) : D := fun ρ h => (d ρ h).bind fun w h1 => match w with
  | .obj c ns ws => if m ∈ ns then .stuck else match M.lookup c with
    | some fn => (as ρ h1).bind fun vs h2 => fn (.obj c ns ws :: vs) h2
    | none => .stuck
  | _ => .stuck
abbrev mt0 : List (Nat × Fn) := []
abbrev mtC (c : Nat) (f : Fn) (M : List (Nat × Fn)) : List (Nat × Fn) := (c, f) :: M
abbrev tc0 : List (Nat × Bool) := []
abbrev tcC (c : Nat) (b : Bool) (T : List (Nat × Bool)) : List (Nat × Bool) := (c, b) :: T
/-- C(xs, ..): the first field a copy of a list, the others as handed -/
def nObj (c : Nat) (f0 : List Nat) (fs : List (List Nat)) : Fn
  | w :: us, h => match lstOf w h with
    | some ws => if ws.length ≤ bigL ∧ us.length = fs.length then .ok (.obj c (f0 :: fs) (.fl ws :: us)) h else .stuck
    | none => .stuck
  | _, _ => .stuck
/-! ### sep.join(l) -/
def joinT (s : List Nat) : List (List Nat) → List Nat
  | [] => []
  | [p] => p
  | p :: q :: r => p ++ (s ++ joinT s (q :: r))
def mJoin : W → List W → Hs → Res W
  | .str a, [w], h => match (lstOf w h).bind strsOf with
    | some ss => if (ss.map List.length).sum + ss.length * a.length ≤ 16777216 then .ok (.str (joinT a ss)) h else .stuck
    | none => .stuck
  | _, _, _ => .stuck
/-! ### str(n) -/
def decT (i : Int) : List Nat := (toString i).toList.map Char.toNat
def bStr : Fn
  | [.int i], h => if i.natAbs.log2 < 1920 then .ok (.str (decT i)) h else .stuck
  | [.str s], h => .ok (.str s) h
  | _, _ => .stuck
end PF
namespace PF
/-! ### f(e, .., k = v, ..), with what is left out -/
inductive Sel where
  | p (i : Nat) | k (j : Nat) | d (i : Nat)
def Sel.get {α : Type} (z : α) (dv xs zs : List α) : Sel → α
  | .p i => xs.getD i z
  | .k j => zs.getD j z
  | .d i => dv.getD i z
def kwG {α : Type} (z : α) (dv : List α) (sel : List Sel) (xs zs : List α) : List α := sel.map (Sel.get z dv xs zs)
def dCallK (f : Fn) (n m : Nat) (dv : List W) (sel : List Sel) (as ks : As) : D := fun ρ h => (as ρ h).bind fun xs h1 => (ks ρ h1).bind fun zs h2 => if xs.length = n ∧ zs.length = m then f (kwG .non dv sel xs zs) h2 else .stuck
theorem dCallK_e {f : Fn} {n m : Nat} {dv : List W} {sel : List Sel} {as ks : As} {ρ : Env} {h : Hs} : dCallK f n m dv sel as ks ρ h = (as ρ h).bind fun xs h1 => (ks ρ h1).bind fun zs h2 => if xs.length = n ∧ zs.length = m then f (kwG .non dv sel xs zs) h2 else .stuck := (rfl)
/-! ### l.index(x) -/
def mIndex : W → List W → Hs → Res W
  | w, [u], h => match lstOf w h with
    | some _ => match daOf h deepest w, daOf h deepest u with
      | some (.lst ds), some d => match ds.findIdx? (fun z => Da.eqB z d) with
        | some j => .ok (.int j) h
        | none => .stuck
      | _, _ => .stuck
    | none => .stuck
  | _, _, _ => .stuck
/-! ### texts: one sign parts -/
/-- l cut at each c -/
def splC (c : Nat) : List Nat → List (List Nat)
  | [] => [[]]
  | x :: xs => if x = c then [] :: splC c xs else match splC c xs with
    | [] => [[x]]
    | p :: ps => (x :: p) :: ps
/-- ahead of the first c -/
def ahC (c : Nat) : List Nat → List Nat
  | [] => []
  | x :: xs => if x = c then [] else x :: ahC c xs
/-- behind the first c -/
def bhC (c : Nat) : List Nat → List Nat
  | [] => []
  | x :: xs => if x = c then xs else bhC c xs
def mSplit : W → List W → Hs → Res W
  | .str s, [.str [c]], h => if c < 256 ∧ s.length + 2 ≤ bigL then newL ((splC c s).map .str) h else .stuck
  | _, _, _ => .stuck
def mPart : W → List W → Hs → Res W
  | .str s, [.str [c]], h => if c < 256 ∧ s.length ≤ bigL then .ok (.tup [.str (ahC c s), .str (if c ∈ s then [c] else []), .str (bhC c s)]) h else .stuck
  | _, _, _ => .stuck
def mCount : W → List W → Hs → Res W
  | .str s, [.str [c]], h => .ok (.int (s.count c)) h
  | _, _, _ => .stuck
def mFind : W → List W → Hs → Res W
  | .str s, [.str [c]], h => if c < 256 then .ok (.int (if c ∈ s then ((ahC c s).length : Int) else -1)) h else .stuck
  | _, _, _ => .stuck
/-- small letters alone, made great -/
def mUpper : W → List W → Hs → Res W
  | .str s, [], h => if s.length ≤ 100000 ∧ s.all (fun c => decide (97 ≤ c ∧ c ≤ 122)) = true then .ok (.str (s.map fun c => c - 32)) h else .stuck
  | _, _, _ => .stuck
def repC (c : Nat) (z : List Nat) : List Nat → List Nat
  | [] => []
  | x :: xs => if x = c then z ++ repC c z xs else x :: repC c z xs
def mRepl : W → List W → Hs → Res W
  | .str s, [.str [c], .str z], h => if c < 256 ∧ s.length ≤ 100000 ∧ z.length ≤ 100 then .ok (.str (repC c z s)) h else .stuck
  | _, _, _ => .stuck
/-- the number that figures write -/
def valT (s : List Nat) : Nat := s.foldl (fun a c => a * 10 + (c - 48)) 0
def figs (s : List Nat) : Bool := decide (s ≠ []) && s.all fun c => decide (48 ≤ c ∧ c ≤ 57)
/-- the whole number that a text writes -/
def wholeT : List Nat → Option Int
  | 45 :: s => if figs s = true then some (-(valT s : Int)) else none
  | s => if figs s = true then some (valT s : Int) else none
def bIntT : Fn
  | [.int i], h => .ok (.int i) h
  | [.bl b], h => .ok (.int (if b then 1 else 0)) h
  | [.str s], h => if s.length ≤ 640 then (match wholeT s with
    | some i => .ok (.int i) h
    | none => .stuck) else .stuck
  | _, _ => .stuck
/-- also texts -/
def oLeT : W → W → Hs → Res W
  | .int i, .int j, h => .ok (.bl (decide (i ≤ j))) h
  | .str a, .str b, h => .ok (.bl (!decide (b < a))) h
  | _, _, _ => .stuck
/-! ### min(l, key=len) -/
/-- the first of the shortest -/
def shortT : List Nat → List (List Nat) → List Nat
  | m, [] => m
  | m, s :: ss => shortT (if s.length < m.length then s else m) ss
def bMinLen : Fn
  | [w], h => match (lstOf w h).bind strsOf with
    | some (s :: ss) => if (s :: ss).all (fun x => decide (x.length ≤ bigL)) = true then .ok (.str (shortT s ss)) h else .stuck
    | _ => .stuck
  | _, _ => .stuck
end PF
namespace PF
/-! ### evaluation lemmas -/
section
variable {ρ : Env} {h : Hs} {w : W} {i : Nat}
@[simp] theorem dV_0 {o : Env} : dV 0 (some w :: o) h = .ok w h := (rfl)
@[simp] theorem dV_1 {a : Option W} {o : Env} : dV 1 (a :: some w :: o) h = .ok w h := (rfl)
@[simp] theorem dV_2 {a b : Option W} {o : Env} : dV 2 (a :: b :: some w :: o) h = .ok w h := (rfl)
@[simp] theorem dV_3 {a b c : Option W} {o : Env} : dV 3 (a :: b :: c :: some w :: o) h = .ok w h := (rfl)
@[simp] theorem dV_4 {a b c d : Option W} {o : Env} : dV 4 (a :: b :: c :: d :: some w :: o) h = .ok w h := (rfl)
@[simp] theorem dV_5 {a b c d e : Option W} {o : Env} : dV 5 (a :: b :: c :: d :: e :: some w :: o) h = .ok w h := (rfl)
@[simp] theorem dV_6 {a b c d e f : Option W} {o : Env} : dV 6 (a :: b :: c :: d :: e :: f :: some w :: o) h = .ok w h := (rfl)
@[simp] theorem dV_7 {a b c d e f g : Option W} {o : Env} : dV 7 (a :: b :: c :: d :: e :: f :: g :: some w :: o) h = .ok w h := (rfl)
@[simp] theorem dV_8 {a b c d e f g k : Option W} {o : Env} : dV 8 (a :: b :: c :: d :: e :: f :: g :: k :: some w :: o) h = .ok w h := (rfl)
@[simp] theorem dV_9 {a b c d e f g k l : Option W} {o : Env} : dV 9 (a :: b :: c :: d :: e :: f :: g :: k :: l :: some w :: o) h = .ok w h := (rfl)
@[simp] theorem dV_10 {a b c d e f g k l m : Option W} {o : Env} : dV 10 (a :: b :: c :: d :: e :: f :: g :: k :: l :: m :: some w :: o) h = .ok w h := (rfl)
@[simp] theorem dV_11 {a b c d e f g k l m n : Option W} {o : Env} : dV 11 (a :: b :: c :: d :: e :: f :: g :: k :: l :: m :: n :: some w :: o) h = .ok w h := (rfl)
@[simp] theorem dV_12 {a b c d e f g k l m n p : Option W} {o : Env} : dV 12 (a :: b :: c :: d :: e :: f :: g :: k :: l :: m :: n :: p :: some w :: o) h = .ok w h := (rfl)
@[simp] theorem dC_e : dC w ρ h = .ok w h := (rfl)
variable {a b c : D} {as : As} {t u : T} {o o' : W → W → Hs → Res W} {o1 : W → Hs → Res W}
@[simp] theorem dBin_e : dBin o a b ρ h = (a ρ h).bind fun x h1 => (b ρ h1).bind fun y h2 => o x y h2 := (rfl)
@[simp] theorem dUn_e : dUn o1 a ρ h = (a ρ h).bind fun x h1 => o1 x h1 := (rfl)
@[simp] theorem dAnd_e : dAnd a b ρ h = (a ρ h).bind fun x h1 => asB x fun c => if c = true then b ρ h1 else .ok (.bl false) h1 := (rfl)
@[simp] theorem dOr_e : dOr a b ρ h = (a ρ h).bind fun x h1 => asB x fun c => if c = true then .ok (.bl true) h1 else b ρ h1 := (rfl)
@[simp] theorem dNot_e : dNot a ρ h = (a ρ h).bind fun x h1 => asB x fun c => .ok (.bl (!c)) h1 := (rfl)
@[simp] theorem tVal_e : tVal a ρ h = (a ρ h).bind fun x h1 => asB x fun c => .ok c h1 := (rfl)
@[simp] theorem tAnd_e : tAnd t u ρ h = (t ρ h).bind fun c h1 => if c = true then u ρ h1 else .ok false h1 := (rfl)
@[simp] theorem tOr_e : tOr t u ρ h = (t ρ h).bind fun c h1 => if c = true then .ok true h1 else u ρ h1 := (rfl)
@[simp] theorem tNot_e : tNot t ρ h = (t ρ h).bind fun c h1 => .ok (!c) h1 := (rfl)
@[simp] theorem tYes_e : tYes ρ h = .ok true h := (rfl)
@[simp] theorem dIf_e : dIf t a b ρ h = (t ρ h).bind fun c h1 => if c = true then a ρ h1 else b ρ h1 := (rfl)
@[simp] theorem aNil_e : aNil ρ h = .ok [] h := (rfl)
@[simp] theorem aCons_e : aCons a as ρ h = (a ρ h).bind fun x h1 => (as ρ h1).bind fun xs h2 => .ok (x :: xs) h2 := (rfl)
@[simp] theorem dTup_e : dTup as ρ h = (as ρ h).bind fun xs h1 => if xs.length ≤ bigL then .ok (.tup xs) h1 else .stuck := (rfl)
@[simp] theorem dLst_e : dLst as ρ h = (as ρ h).bind fun xs h1 => if xs.length ≤ bigL then newL xs h1 else .stuck := (rfl)
@[simp] theorem dCall_e {f : Fn} : dCall f as ρ h = (as ρ h).bind fun xs h1 => f xs h1 := (rfl)
@[simp] theorem dSl_e {l r : P} : dSl a l r ρ h = (a ρ h).bind fun x h1 => (l ρ h1).bind fun l h2 => (r ρ h2).bind fun u h3 => oSl x l u h3 := (rfl)
@[simp] theorem pNo_e : pNo ρ h = .ok none h := (rfl)
theorem pAt_e : pAt a ρ h = (a ρ h).bind fun w h1 => match w with
  | .int i => .ok (some i) h1
  | _ => .stuck := rfl
@[simp] theorem pAt_int {i : Int} : pAt (dC (.int i)) ρ h = .ok (some i) h := (rfl)
@[simp] theorem big_lit0 : (0 ≤ bigL) = True := by decide
@[simp] theorem big_lit1 : (1 ≤ bigL) = True := by simp [bigL]
@[simp] theorem big_lit2 : (2 ≤ bigL) = True := by simp [bigL]
@[simp] theorem big_lit3 : (3 ≤ bigL) = True := by simp [bigL]
@[simp] theorem big_lit4 : (4 ≤ bigL) = True := by simp [bigL]
@[simp] theorem big_lit6 : (6 ≤ bigL) = True := by simp [bigL]
@[simp] theorem big_add1 : (0 + 1 ≤ bigL) = True := by simp [bigL]
/-! statements -/
variable {s r : Sm}
theorem sSeq_e : sSeq s r ρ h = match s ρ h with
  | .nx ρ1 h1 => r ρ1 h1
  | x => x := rfl
def Out.then (x : Out) (k : Env → Hs → Out) : Out := match x with
  | .nx ρ h => k ρ h
  | x => x
@[simp] theorem sSeq_t : sSeq s r ρ h = (s ρ h).then r := (rfl)
theorem seq_nx {ρ1 : Env} {h1 : Hs} (e : s ρ h = .nx ρ1 h1) : sSeq s r ρ h = r ρ1 h1 := by rw [sSeq_t, e]; rfl
@[simp] theorem then_nx {k : Env → Hs → Out} : (Out.nx ρ h).then k = k ρ h := (rfl)
@[simp] theorem then_ret {k : Env → Hs → Out} : (Out.ret w h).then k = .ret w h := (rfl)
@[simp] theorem then_bk {k : Env → Hs → Out} : (Out.bk ρ h).then k = .bk ρ h := (rfl)
@[simp] theorem then_ct {k : Env → Hs → Out} : (Out.ct ρ h).then k = .ct ρ h := (rfl)
@[simp] theorem then_exc {c : Nat} {p : Pay} {k : Env → Hs → Out} : (Out.exc c p ρ h).then k = .exc c p ρ h := (rfl)
@[simp] theorem sNx_e : sNx ρ h = .nx ρ h := (rfl)
@[simp] theorem sExp_e : sExp a ρ h = onR (a ρ h) ρ fun _ h1 => .nx ρ h1 := (rfl)
@[simp] theorem sRet_e : sRet a ρ h = onR (a ρ h) ρ fun w h1 => .ret w h1 := (rfl)
@[simp] theorem sRetN_e : sRetN ρ h = .ret .non h := (rfl)
@[simp] theorem sBrk_e : sBrk ρ h = .bk ρ h := (rfl)
@[simp] theorem sCnt_e : sCnt ρ h = .ct ρ h := (rfl)
@[simp] theorem sRaise_e {c : Nat} : sRaise c ρ h = .exc c none ρ h := (rfl)
@[simp] theorem sAsg_e {g : Tg} : sAsg a g ρ h = onR (a ρ h) ρ fun w h1 => onO (g.run w ρ) fun ρ1 => .nx ρ1 h1 := (rfl)
@[simp] theorem sIf_e : sIf t s r ρ h = onR (t ρ h) ρ fun c h1 => if c = true then s ρ h1 else r ρ h1 := (rfl)
@[simp] theorem run_n {w : W} : (Tg.n i).run w ρ = if i < ρ.length then some (ρ.set i (some w)) else none := by rw [Tg.run]
@[simp] theorem run_t {gs : List Tg} {ws : List W} : (Tg.t gs).run (.tup ws) ρ = Tg.runs gs ws ρ := by rw [Tg.run]
@[simp] theorem runs_nil : Tg.runs [] [] ρ = some ρ := by rw [Tg.runs]
@[simp] theorem runs_cons {g : Tg} {gs : List Tg} {ws : List W} : Tg.runs (g :: gs) (w :: ws) ρ = (Tg.run g w ρ).bind fun ρ1 => Tg.runs gs ws ρ1 := by rw [Tg.runs]
@[simp] theorem sFor_e {it : I} {g : Tg} : sFor it g s ρ h = onR (it ρ h) ρ fun J h1 => forL J.2 g s J.1 ρ h1 := (rfl)
@[simp] theorem endF_nx : endF (.nx ρ h) = .ok .non h := (rfl)
@[simp] theorem endF_ret : endF (.ret w h) = .ok w h := (rfl)
@[simp] theorem endF_exc {c : Nat} {p : Pay} : endF (.exc c p ρ h) = .exc c p h := (rfl)
/-! what is left behind a call -/
@[simp] theorem tame_self' (h : Hs) : tame h h = true := by
  unfold tame
  simp
@[simp] theorem tame_app (h e : Hs) : tame h (h ++ e) = true := by
  unfold tame
  simp
  intro i hi
  left
  rw [List.getElem?_append_left hi]
/-- a plain cell in the store's place b -/
theorem tame_set {h h' : Hs} {b : Nat} {c : Cell} (hc : c.pure = true) (t : tame h h' = true) : tame h (h'.set b c) = true := by
  unfold tame at t ⊢
  simp only [Bool.and_eq_true, decide_eq_true_eq, List.all_eq_true, List.mem_range, List.length_set, Bool.or_eq_true] at t ⊢
  refine ⟨t.1, fun i hi => ?_⟩
  by_cases e : b = i
  · subst e
    have : b < h'.length := by omega
    rw [List.getElem?_set, if_pos rfl, if_pos this]
    exact .inr hc
  · rw [List.getElem?_set, if_neg e]
    exact t.2 i hi
theorem tame_get {h h' : Hs} (t : tame h h' = true) : h.length ≤ h'.length ∧ ∀ (i : Nat) (c : Cell), i < h.length → h'[i]? = some c → h[i]? = some c ∨ c.pure = true := by
  unfold tame at t
  rw [Bool.and_eq_true, decide_eq_true_eq, List.all_eq_true] at t
  refine ⟨t.1, fun i c hi hc => ?_⟩
  have := t.2 i (List.mem_range.mpr hi)
  rw [hc] at this
  rcases Bool.or_eq_true _ _ |>.mp this with z | z
  · exact .inl (of_decide_eq_true z).symm
  · exact .inr z
theorem tame_mk {h h' : Hs} (hl : h.length ≤ h'.length) (q : ∀ (i : Nat) (c : Cell), i < h.length → h'[i]? = some c → h[i]? = some c ∨ c.pure = true) : tame h h' = true := by
  unfold tame
  simp only [Bool.and_eq_true, decide_eq_true_eq, List.all_eq_true, List.mem_range, Bool.or_eq_true]
  refine ⟨hl, fun i hi => ?_⟩
  rw [List.getElem?_eq_getElem (by omega)]
  rcases q i _ hi (List.getElem?_eq_getElem (by omega)) with z | z
  · exact .inl z.symm
  · exact .inr z
theorem tame_trans {h h1 h2 : Hs} (a : tame h h1 = true) (b : tame h1 h2 = true) : tame h h2 = true := by
  obtain ⟨l1, q1⟩ := tame_get a
  obtain ⟨l2, q2⟩ := tame_get b
  refine tame_mk (by omega) fun i c hi hc => ?_
  rcases q2 i c (by omega) hc with z | z
  · exact q1 i c hi z
  · exact .inr z
theorem tame_take {h h' : Hs} {n : Nat} (t : tame h h' = true) (hn : h.length ≤ n) : tame h (h'.take n) = true := by
  obtain ⟨l1, q1⟩ := tame_get t
  refine tame_mk (by rw [List.length_take]; omega) fun i c hi hc => ?_
  rw [List.getElem?_take, if_pos (by omega)] at hc
  exact q1 i c hi hc
theorem tame_push {h h' : Hs} (t : tame h h' = true) (e : Hs) : tame h (h' ++ e) = true := tame_trans t (tame_app h' e)
theorem fz_pure {h : Hs} {n d : Nat} {w : W} (hw : w.pure = true) : fzW h n d w = some w := by
  cases d <;> simp [fzW, hw]
theorem fz_self {h : Hs} : ∀ (d : Nat) (w w' : W), fzW h h.length d w = some w' → w' = w
  | 0, w, w', e => by
    unfold fzW at e
    split at e
    · cases e; rfl
    · split at e
      · split at e
        · cases e; rfl
        · cases e
      · cases e
  | d + 1, w, w', e => by
    have all : ∀ (ws ws' : List W), mapO (fzW h h.length d) ws = some ws' → ws' = ws := by
      intro ws
      induction ws with
      | nil => intro ws' e; cases e; rfl
      | cons w ws ih =>
        intro ws' e
        rw [mapO] at e
        obtain ⟨b, e1, e⟩ := Option.bind_eq_some_iff.mp e
        obtain ⟨bs, e2, e⟩ := Option.bind_eq_some_iff.mp e
        cases e
        rw [fz_self d _ _ e1, ih _ e2]
    unfold fzW at e
    split at e
    · cases e; rfl
    · split at e
      · rename_i i _
        split at e
        · cases e; rfl
        · rename_i hi
          rw [List.getElem?_eq_none (by omega)] at e
          cases e
      · obtain ⟨ws', e1, e2⟩ := Option.map_eq_some_iff.mp e
        subst e2
        rw [all _ _ e1]
      · obtain ⟨ws', e1, e2⟩ := Option.map_eq_some_iff.mp e
        subst e2
        rw [all _ _ e1]
      · obtain ⟨ws', e1, e2⟩ := Option.map_eq_some_iff.mp e
        subst e2
        rw [all _ _ e1]
      · cases e
@[simp] theorem gc_same (w : W) : gc h (.ok w h) = .ok w h := by
  unfold gc
  dsimp only
  rw [if_pos (tame_self' h)]
  cases e : fzW h h.length 60 w with
  | none => rfl
  | some w' =>
    dsimp only
    rw [fz_self _ _ _ e, List.take_length]
@[simp] theorem gc_same_exc (c : Nat) (p : Pay) : gc h (.exc c p h) = .exc c p h := by
  unfold gc
  simp
theorem gc_pureT {w : W} {h' : Hs} (hw : w.pure = true) (t : tame h h' = true) : gc h (.ok w h') = .ok w (h'.take h.length) := by
  unfold gc
  dsimp only
  rw [if_pos t, fz_pure hw]
theorem gc_pure {w : W} {e : Hs} (hw : w.pure = true) : gc h (.ok w (h ++ e)) = .ok w h := by
  rw [gc_pureT hw (tame_app h e), List.take_left]
@[simp] theorem gc_ext_bl (b : Bool) (e : Hs) : gc h (.ok (.bl b) (h ++ e)) = .ok (.bl b) h := gc_pure rfl
@[simp] theorem gc_ext_int (b : Int) (e : Hs) : gc h (.ok (.int b) (h ++ e)) = .ok (.int b) h := gc_pure rfl
@[simp] theorem gc_ext_str (b : List Nat) (e : Hs) : gc h (.ok (.str b) (h ++ e)) = .ok (.str b) h := gc_pure rfl
@[simp] theorem gc_ext_non (e : Hs) : gc h (.ok .non (h ++ e)) = .ok .non h := gc_pure rfl
theorem gc_exc {c : Nat} {p : Pay} {e : Hs} (hp : p.pure = true) : gc h (.exc c p (h ++ e)) = .exc c p h := by
  unfold gc
  dsimp only
  rw [if_pos ⟨tame_app h e, hp⟩, List.take_left]
/-- the answer is a new list -/
theorem gc_lstT {h' : Hs} {i : Nat} {ws : List W} (t : tame h h' = true) (hi : h.length ≤ i) (e : h'[i]? = some (.lst ws)) (hp : W.pures ws = true) : gc h (.ok (.ref i) h') = .ok (.fl ws) (h'.take h.length) := by
  have q : ∀ ws : List W, W.pures ws = true → mapO (fzW h' h.length 59) ws = some ws := by
    intro ws
    induction ws with
    | nil => intro _; rfl
    | cons w ws ih =>
      intro hp
      rw [W.pures, Bool.and_eq_true] at hp
      rw [mapO, fz_pure hp.1, ih hp.2]
      rfl
  have hn : ¬ i < h.length := by omega
  unfold gc
  dsimp only
  rw [if_pos t]
  unfold fzW
  simp [hn, e, q ws hp, W.pure]
theorem gc_lst {e : Hs} {i : Nat} {ws : List W} (hi : h.length ≤ i) (ei : e[i - h.length]? = some (.lst ws)) (hp : W.pures ws = true) : gc h (.ok (.ref i) (h ++ e)) = .ok (.fl ws) h := by
  rw [gc_lstT (tame_app h e) hi (by rw [List.getElem?_append_right hi]; exact ei) hp, List.take_left]
theorem gc_newL {ws : List W} (hp : W.pures ws = true) : gc h (newL ws h) = .ok (.fl ws) h := gc_lst (Nat.le_refl _) (by simp) hp
theorem gcL_lst {e : Hs} {i : Nat} {ws : List W} (hi : h.length ≤ i) (ei : e[i - h.length]? = some (.lst ws)) (hp : W.pures ws = true) : gcL h (.ok (.ref i) (h ++ e)) = .ok (.ref h.length) (h ++ [.lst ws]) := by
  have q : ∀ (g : Hs) (ws : List W), W.pures ws = true → mapO (fzW g h.length 60) ws = some ws := by
    intro g ws
    induction ws with
    | nil => intro _; rfl
    | cons w ws ih =>
      intro hp
      rw [W.pures, Bool.and_eq_true] at hp
      rw [mapO, fz_pure hp.1, ih hp.2]
      rfl
  unfold gcL
  dsimp only
  rw [if_pos ⟨tame_app h e, hi⟩, List.getElem?_append_right hi, ei]
  dsimp only
  rw [q _ _ hp, List.take_left]
theorem dGz_e {d : D} : dGz d ρ h = gc h (d ρ h) := (rfl)
theorem defF_e {ps n : Nat} {ws : List W} (hl : ws.length = ps) : defF ps n s ws h = gc h (endF (s (ws.map some ++ List.replicate (n - ps) none) h)) := by
  unfold defF mkF
  rw [if_pos hl]
end
/-! ### operations -/
section
variable {h : Hs} {i j : Int}
@[simp] theorem oAdd_i : oAdd (.int i) (.int j) h = .ok (.int (i + j)) h := (rfl)
@[simp] theorem oAddI_i : oAddI (.int i) (.int j) h = .ok (.int (i + j)) h := (rfl)
@[simp] theorem oSub_i : oSub (.int i) (.int j) h = .ok (.int (i - j)) h := (rfl)
theorem oMul_i (hm : mulOK i j) : oMul (.int i) (.int j) h = .ok (.int (i * j)) h := if_pos hm
theorem oDiv_i (hm : divOK i j) : oDiv (.int i) (.int j) h = .ok (.int (i.fdiv j)) h := if_pos hm
theorem oMod_i (hm : j ≠ 0) : oMod (.int i) (.int j) h = .ok (.int (i.fmod j)) h := if_pos hm
theorem oPow_i (hm : powOK i j) : oPow (.int i) (.int j) h = .ok (.int (i ^ j.toNat)) h := if_pos hm
@[simp] theorem oNeg_i : oNeg (.int i) h = .ok (.int (-i)) h := (rfl)
@[simp] theorem oLt_i : oLt (.int i) (.int j) h = .ok (.bl (decide (i < j))) h := (rfl)
@[simp] theorem oLe_i : oLe (.int i) (.int j) h = .ok (.bl (decide (i ≤ j))) h := (rfl)
@[simp] theorem oGt_i : oGt (.int i) (.int j) h = .ok (.bl (decide (j < i))) h := (rfl)
@[simp] theorem oGe_s {a b : List Nat} : oGe (.str a) (.str b) h = .ok (.bl (!decide (a < b))) h := (rfl)
@[simp] theorem oGe_i : oGe (.int i) (.int j) h = .ok (.bl (decide (j ≤ i))) h := (rfl)
@[simp] theorem oEq_i : oEq (.int i) (.int j) h = .ok (.bl (i == j)) h := (rfl)
@[simp] theorem oNe_i : oNe (.int i) (.int j) h = .ok (.bl (!(i == j))) h := (rfl)
@[simp] theorem bAbs_i : bAbs [.int i] h = .ok (.int (if i < 0 then -i else i)) h := (rfl)
theorem bDivmod_i (hm : divOK i j) : bDivmod [.int i, .int j] h = .ok (.tup [.int (i.fdiv j), .int (i.fmod j)]) h := if_pos hm
/-- a positive divisor -/
theorem oDivP (h0 : 0 < j) (hl : limbs j ≤ 300) : oDiv (.int i) (.int j) h = .ok (.int (i / j)) h := by
  rw [oDiv_i ⟨by omega, by simp; intro z; omega⟩, Int.fdiv_eq_ediv_of_nonneg i (by omega)]
theorem oModP (h0 : 0 < j) : oMod (.int i) (.int j) h = .ok (.int (i % j)) h := by
  rw [oMod_i (by omega), Int.fmod_eq_emod_of_nonneg i (by omega)]
theorem limbs_of {j : Int} (hj : j.natAbs < 2 ^ 9000) : limbs j ≤ 300 := by
  unfold limbs
  split
  · omega
  · rename_i hz
    have hz : j ≠ 0 := by simpa using hz
    have h1 : j.natAbs.log2 < 9000 := (Nat.log2_lt (by omega)).mpr hj
    omega
theorem limbs_small {j : Int} {n : Nat} (hj : j.natAbs < 2 ^ n) (hn : n ≤ 9000) : limbs j ≤ 300 := limbs_of (Nat.lt_of_lt_of_le hj (Nat.pow_le_pow_right (by omega) hn))
theorem mulOK_of {i j : Int} {a b : Nat} (hi : i.natAbs < 2 ^ a) (hj : j.natAbs < 2 ^ b) (hs : a + b ≤ 900000) : mulOK i j := by
  unfold mulOK
  have key : ∀ (x : Nat) (n : Nat), x < 2 ^ n → x.log2 ≤ n := fun x n hx => by
    rcases Nat.eq_zero_or_pos x with z | z
    · subst z; exact Nat.zero_le _
    · exact Nat.le_of_lt ((Nat.log2_lt (by omega)).mpr hx)
  have h1 := key _ _ hi
  have h2 := key _ _ hj
  exact .inl (by omega)
theorem mulOK_l {i j : Int} (h : i.natAbs < 2 ^ 64) : mulOK i j := .inr (.inl h)
theorem mulOK_r {i j : Int} (h : j.natAbs < 2 ^ 64) : mulOK i j := .inr (.inr h)
@[simp] theorem pure_int (i : Int) : (W.int i).pure = true := (rfl)
@[simp] theorem pure_bl (i : Bool) : (W.bl i).pure = true := (rfl)
@[simp] theorem pure_non : W.non.pure = true := (rfl)
@[simp] theorem pure_str (s : List Nat) : (W.str s).pure = true := (rfl)
@[simp] theorem pure_tup (ws : List W) : (W.tup ws).pure = W.pures ws := by rw [W.pure]
@[simp] theorem pure_fl (ws : List W) : (W.fl ws).pure = W.pures ws := by rw [W.pure]
@[simp] theorem pure_obj (c : Nat) (ns : List (List Nat)) (ws : List W) : (W.obj c ns ws).pure = W.pures ws := by rw [W.pure]
@[simp] theorem pure_ref (i : Nat) : (W.ref i).pure = false := (rfl)
@[simp] theorem pures_nil : W.pures [] = true := (rfl)
@[simp] theorem pures_cons (w : W) (ws : List W) : W.pures (w :: ws) = (w.pure && W.pures ws) := by rw [W.pures]
@[simp] theorem asB_b {α : Type} (b : Bool) (k : Bool → Res α) : asB (.bl b) k = k b := (rfl)
/-! data -/
@[simp] theorem da_int (n : Nat) (i : Int) : daOf h n (.int i) = some (.int i) := by cases n <;> rfl
@[simp] theorem da_bl (n : Nat) (i : Bool) : daOf h n (.bl i) = some (.bl i) := by cases n <;> rfl
@[simp] theorem da_str (n : Nat) (s : List Nat) : daOf h n (.str s) = some (.str s) := by cases n <;> rfl
@[simp] theorem da_non (n : Nat) : daOf h n .non = some .non := by cases n <;> rfl
@[simp] theorem da_tup (n : Nat) (ws : List W) : daOf h (n + 1) (.tup ws) = (mapO (daOf h n) ws).map Da.tup := (rfl)
@[simp] theorem da_fl (n : Nat) (ws : List W) : daOf h (n + 1) (.fl ws) = (mapO (daOf h n) ws).map Da.lst := (rfl)
@[simp] theorem mapO_nil {α β : Type} (f : α → Option β) : mapO f [] = some [] := (rfl)
@[simp] theorem mapO_cons {α β : Type} (f : α → Option β) (a : α) (as : List α) : mapO f (a :: as) = (f a).bind fun b => (mapO f as).bind fun bs => some (b :: bs) := (rfl)
mutual
theorem Da.eqB_refl : ∀ d : Da, Da.eqB d d = true
  | .non => rfl
  | .bl b => by simp [Da.eqB]
  | .int i => by simp [Da.eqB]
  | .str s => by simp [Da.eqB]
  | .lst ds => by rw [Da.eqB]; exact Da.eqL_refl ds
  | .tup ds => by rw [Da.eqB]; exact Da.eqL_refl ds
theorem Da.eqL_refl : ∀ ds : List Da, Da.eqL ds ds = true
  | [] => rfl
  | d :: ds => by rw [Da.eqL, Da.eqB_refl d, Da.eqL_refl ds]; rfl
end
theorem oEq_self {w : W} {d : Da} (e : daOf h deepest w = some d) : oEq w w h = .ok (.bl true) h := by
  simp [oEq, eqW, e, Da.eqB_refl]
end
/-! ### loops, lists -/
theorem atW_nat {α : Type} {xs : List α} {k : Nat} {x : α} (e : xs[k]? = some x) : atW xs (k : Int) = some x := by
  have hk : k < xs.length := (List.getElem?_eq_some_iff.mp e).1
  unfold atW ixW
  rw [if_pos (by omega), if_pos (by omega)]
  show xs[(k : Int).toNat]? = _
  rw [Int.toNat_natCast, e]
theorem oIx_ref {h : Hs} {r k : Nat} {ws : List W} {w : W} (hr : h[r]? = some (.lst ws)) (hk : ws[k]? = some w) : oIx (.ref r) (.int (k : Int)) h = .ok w h := by
  simp [oIx, hr, atW_nat hk]
theorem bLen_ref {h : Hs} {r : Nat} {ws : List W} (hr : h[r]? = some (.lst ws)) : bLen [.ref r] h = .ok (.int ws.length) h := by
  simp [bLen, hr]
theorem cut_first {α : Type} (ws : List α) (n : Nat) (hl : ws.length ≤ n) : cutW ws none (some (n : Int)) = ws := by
  unfold cutW sIxW
  have e1 : ¬ ((n : Int) < 0) := by omega
  simp only [if_neg e1, Int.toNat_natCast, Nat.sub_zero, List.drop_zero]
  rw [Nat.min_eq_right hl, List.take_length]
theorem cut_63 {α : Type} (ws : List α) (hl : ws.length ≤ 63) : cutW ws none (some 63) = ws := cut_first ws 63 hl
theorem forL_inv {g : List (W × List W)} {tg : Tg} {b : Sm} (Pv : Nat → Env → Hs → Prop) (all : List W) (hst : ∀ i ρ h, Pv i ρ h → stays g h = true)
    (step : ∀ i w ρ h, all[i]? = some w → Pv i ρ h → ∃ ρ1, tg.run w ρ = some ρ1 ∧ ((∃ ρ2 h2, b ρ1 h = .nx ρ2 h2 ∧ Pv (i + 1) ρ2 h2) ∨ ∃ ρ2 h2, b ρ1 h = .ct ρ2 h2 ∧ Pv (i + 1) ρ2 h2)) :
    ∀ (n i : Nat) (ρ : Env) (h : Hs), all.length - i = n → i ≤ all.length → Pv i ρ h → ∃ ρ' h', forL g tg b (all.drop i) ρ h = .nx ρ' h' ∧ Pv all.length ρ' h'
  | 0, i, ρ, h, hn, hi, p => by
    have e : i = all.length := by omega
    subst e
    rw [List.drop_length, forL, if_pos (hst _ _ _ p)]
    exact ⟨ρ, h, rfl, p⟩
  | n + 1, i, ρ, h, hn, hi, p => by
    have hlt : i < all.length := by omega
    rw [List.drop_eq_getElem_cons hlt, forL, if_pos (hst _ _ _ p)]
    obtain ⟨ρ1, e1, q⟩ := step i _ ρ h (List.getElem?_eq_getElem hlt) p
    rw [e1, onO_some]
    rcases q with ⟨ρ2, h2, e2, p2⟩ | ⟨ρ2, h2, e2, p2⟩
    · rw [e2]
      exact forL_inv Pv all hst step n (i + 1) ρ2 h2 (by omega) (by omega) p2
    · rw [e2]
      exact forL_inv Pv all hst step n (i + 1) ρ2 h2 (by omega) (by omega) p2
theorem forL_all {g : List (W × List W)} {tg : Tg} {b : Sm} (Pv : Nat → Env → Hs → Prop) (all : List W) (ρ : Env) (h : Hs) (p : Pv 0 ρ h) (hst : ∀ i ρ h, Pv i ρ h → stays g h = true)
    (step : ∀ i w ρ h, all[i]? = some w → Pv i ρ h → ∃ ρ1, tg.run w ρ = some ρ1 ∧ ((∃ ρ2 h2, b ρ1 h = .nx ρ2 h2 ∧ Pv (i + 1) ρ2 h2) ∨ ∃ ρ2 h2, b ρ1 h = .ct ρ2 h2 ∧ Pv (i + 1) ρ2 h2)) :
    ∃ ρ' h', forL g tg b all ρ h = .nx ρ' h' ∧ Pv all.length ρ' h' := by
  have := forL_inv Pv all hst step all.length 0 ρ h rfl (Nat.zero_le _) p
  rwa [List.drop_zero] at this
theorem rngW_get {lo : Int} {n i : Nat} {w : W} (e : (rngW lo n)[i]? = some w) : i < n ∧ w = .int (lo + i) := by
  unfold rngW at e
  rw [List.getElem?_map] at e
  by_cases hi : i < n
  · rw [List.getElem?_range hi] at e
    cases e
    exact ⟨hi, rfl⟩
  · rw [List.getElem?_eq_none (by rw [List.length_range]; omega)] at e
    cases e
theorem rngW_len (lo : Int) (n : Nat) : (rngW lo n).length = n := by simp [rngW]
theorem iRng1_e {d : D} {ρ : Env} {h h1 : Hs} {n : Nat} (e : d ρ h = .ok (.int n) h1) (hn : n < 2 ^ 60) : iRng1 d ρ h = .ok (rngW 0 n, []) h1 := by
  unfold iRng1
  rw [e, Res.bind_ok]
  have : rOK (n : Int) := ⟨by omega, by omega⟩
  simp [this]
@[simp] theorem stays_nil (h : Hs) : stays [] h = true := (rfl)
/-- what the law reckons is True -/
def LawTrue (f : Fn) : Prop := ∀ ns : List Int, ns.length ≤ 63 → ∃ h, f [.fl (ns.map PF.W.int)] [] = .ok (.bl true) h
theorem sortS_pw (ss : List (List Nat)) : (sortS ss).Pairwise (· ≤ ·) := by
  have := List.pairwise_mergeSort (le := fun a b : List Nat => decide (a ≤ b)) (fun a b c h1 h2 => decide_eq_true (List.le_trans (of_decide_eq_true h1) (of_decide_eq_true h2))) (fun a b => by
    rcases List.le_total a b with h | h
    · simp [h]
    · simp [h]) ss
  exact this.imp fun h => of_decide_eq_true h
theorem sortS_perm (ss : List (List Nat)) : (sortS ss).Perm ss := List.mergeSort_perm _ _
theorem sortS_of {ss zs : List (List Nat)} (hp : zs.Perm ss) (hs : zs.Pairwise (· ≤ ·)) : zs = sortS ss :=
  List.Perm.eq_of_pairwise (le := (· ≤ ·)) (fun _ _ _ _ h1 h2 => List.le_antisymm h1 h2) hs (sortS_pw ss) (hp.trans (sortS_perm ss).symm)
/-! ### each once -/
theorem mem_nub {α : Type} [DecidableEq α] {a : α} : ∀ {l : List α}, a ∈ nub l ↔ a ∈ l
  | [] => Iff.rfl
  | b :: l => by
    rw [nub]
    split
    · rename_i h
      rw [mem_nub (l := l), List.mem_cons]
      exact ⟨.inr, fun z => z.elim (fun e => by rw [e]; exact h) id⟩
    · rw [List.mem_cons, List.mem_cons, mem_nub (l := l)]
theorem nub_nodup {α : Type} [DecidableEq α] : ∀ l : List α, (nub l).Nodup
  | [] => List.nodup_nil
  | b :: l => by
    rw [nub]
    split
    · exact nub_nodup l
    · rename_i h
      exact List.nodup_cons.mpr ⟨fun z => h (mem_nub.mp z), nub_nodup l⟩
theorem nub_perm {α : Type} [DecidableEq α] {l m : List α} (d : m.Nodup) (e : ∀ a, a ∈ m ↔ a ∈ l) : m.Perm (nub l) :=
  (List.perm_ext_iff_of_nodup d (nub_nodup l)).mpr fun a => by rw [e, mem_nub]
theorem sortI_perm (is : List Int) : (sortI is).Perm is := List.mergeSort_perm _ _
theorem sortI_pw (is : List Int) : (sortI is).Pairwise (· ≤ ·) := by
  have := List.pairwise_mergeSort (le := fun a b : Int => decide (a ≤ b)) (fun a b c h1 h2 => decide_eq_true (Int.le_trans (of_decide_eq_true h1) (of_decide_eq_true h2))) (fun a b => by
    rcases Int.le_total a b with h | h
    · simp [h]
    · simp [h]) is
  exact this.imp fun h => of_decide_eq_true h
theorem sortI_of {is js : List Int} (hp : js.Perm is) (hs : js.Pairwise (· ≤ ·)) : js = sortI is :=
  List.Perm.eq_of_pairwise (le := (· ≤ ·)) (fun _ _ _ _ h1 h2 => Int.le_antisymm h1 h2) hs (sortI_pw is) (hp.trans (sortI_perm is).symm)
theorem nub_map {α β : Type} [DecidableEq α] [DecidableEq β] {f : α → β} (inj : ∀ a b, f a = f b → a = b) : ∀ l : List α, nub (l.map f) = (nub l).map f
  | [] => rfl
  | a :: l => by
    have e : f a ∈ l.map f ↔ a ∈ l := by
      rw [List.mem_map]
      exact ⟨fun ⟨b, hb, z⟩ => by rw [← inj _ _ z]; exact hb, fun h => ⟨a, h, rfl⟩⟩
    rw [List.map_cons, nub, nub]
    by_cases h : a ∈ l
    · rw [if_pos h, if_pos (e.mpr h)]; exact nub_map inj l
    · rw [if_neg h, if_neg fun z => h (e.mp z), List.map_cons, nub_map inj l]
theorem nub_len {α : Type} [DecidableEq α] : ∀ l : List α, (nub l).length ≤ l.length
  | [] => Nat.le_refl _
  | a :: l => by
    have := nub_len l
    rw [nub]
    split
    · rw [List.length_cons]; omega
    · rw [List.length_cons, List.length_cons]; omega
/-! ### pairs of texts, sorted -/
theorem lePr_iff {a b : Pr} : lePr a b = true ↔ a.1 < b.1 ∨ (a.1 = b.1 ∧ a.2 ≤ b.2) := by
  unfold lePr
  rw [Bool.or_eq_true, Bool.and_eq_true, decide_eq_true_eq, decide_eq_true_eq, decide_eq_true_eq]
theorem lePr_trans (a b c : Pr) (h1 : lePr a b = true) (h2 : lePr b c = true) : lePr a c = true := by
  rw [lePr_iff] at *
  rcases h1 with h1 | ⟨e1, h1⟩
  · rcases h2 with h2 | ⟨e2, h2⟩
    · exact .inl (List.lt_trans h1 h2)
    · exact .inl (by rw [← e2]; exact h1)
  · rcases h2 with h2 | ⟨e2, h2⟩
    · exact .inl (by rw [e1]; exact h2)
    · exact .inr ⟨e1.trans e2, List.le_trans h1 h2⟩
theorem lePr_of {a b : Pr} (h1 : ¬ b.1 < a.1) (h2 : a.1 < b.1 ∨ ¬ b.2 < a.2) : lePr a b = true := by
  rw [lePr_iff]
  by_cases h : a.1 < b.1
  · exact .inl h
  · exact .inr ⟨List.le_antisymm (List.not_lt.mp h1) (List.not_lt.mp h), List.not_lt.mp (h2.resolve_left h)⟩
theorem lePr_total (a b : Pr) : (lePr a b || lePr b a) = true := by
  rw [Bool.or_eq_true]
  by_cases h1 : b.1 < a.1
  · exact .inr (lePr_iff.mpr (.inl h1))
  · by_cases h2 : a.1 < b.1
    · exact .inl (lePr_iff.mpr (.inl h2))
    · have e : a.1 = b.1 := List.le_antisymm (List.not_lt.mp h1) (List.not_lt.mp h2)
      rcases List.le_total a.2 b.2 with h | h
      · exact .inl (lePr_iff.mpr (.inr ⟨e, h⟩))
      · exact .inr (lePr_iff.mpr (.inr ⟨e.symm, h⟩))
theorem lePr_anti {a b : Pr} (h1 : lePr a b = true) (h2 : lePr b a = true) : a = b := by
  rw [lePr_iff] at *
  rcases h1 with h1 | ⟨e1, h1⟩
  · rcases h2 with h2 | ⟨e2, h2⟩
    · exact absurd (List.lt_trans h1 h2) (List.lt_irrefl _)
    · rw [e2] at h1; exact absurd h1 (List.lt_irrefl _)
  · rcases h2 with h2 | ⟨e2, h2⟩
    · rw [e1] at h2; exact absurd h2 (List.lt_irrefl _)
    · exact Prod.ext e1 (List.le_antisymm h1 h2)
theorem sortP_perm (ps : List Pr) : (sortP ps).Perm ps := List.mergeSort_perm _ _
theorem sortP_pw (ps : List Pr) : (sortP ps).Pairwise fun a b => lePr a b = true := List.pairwise_mergeSort lePr_trans lePr_total ps
theorem sortP_of {ps qs : List Pr} (hp : qs.Perm ps) (hs : qs.Pairwise fun a b => lePr a b = true) : qs = sortP ps :=
  List.Perm.eq_of_pairwise (le := fun a b => lePr a b = true) (fun _ _ _ _ h1 h2 => lePr_anti h1 h2) hs (sortP_pw ps) (hp.trans (sortP_perm ps).symm)
theorem perm_map_inv {α β : Type} {f : α → β} {l m : List β} (h : l.Perm m) : ∀ ts : List α, m = ts.map f → ∃ ts' : List α, ts'.Perm ts ∧ l = ts'.map f := by
  induction h with
  | nil =>
    intro ts e
    cases ts with
    | nil => exact ⟨[], List.Perm.refl _, rfl⟩
    | cons t ts => cases e
  | cons x _ ih =>
    intro ts e
    cases ts with
    | nil => cases e
    | cons t ts =>
      rw [List.map_cons, List.cons.injEq] at e
      obtain ⟨ts', p, q⟩ := ih ts e.2
      exact ⟨t :: ts', p.cons t, by rw [List.map_cons, e.1, q]⟩
  | swap x y l =>
    intro ts e
    match ts, e with
    | t :: u :: ts, e =>
      rw [List.map_cons, List.map_cons, List.cons.injEq, List.cons.injEq] at e
      exact ⟨u :: t :: ts, .swap _ _ _, by rw [List.map_cons, List.map_cons, e.1, e.2.1, e.2.2]⟩
  | trans _ _ ih1 ih2 =>
    intro ts e
    obtain ⟨ts1, p1, q1⟩ := ih2 ts e
    obtain ⟨ts2, p2, q2⟩ := ih1 ts1 q1
    exact ⟨ts2, p2.trans p1, q2⟩
end PF
namespace PF
open PySem PySem.Spec PyProof.Rows L2
/-! ### values and the store, related -/
def sS (s : List Nat) : PySem.Str := ⟨s.toArray⟩
/-- signs as they are -/
def okS (s : List Nat) : Prop := ∀ c ∈ s, c < 1114112
instance (s : List Nat) : Decidable (okS s) := inferInstanceAs (Decidable (∀ c ∈ s, c < 1114112))
/-- a list that nobody changes -/
def SqF (K : PySem.W.Frag) (H : Hp) (a : Addr) (xs : List V) : Prop :=
  (∃ o, H a = some (.frz o (.lst xs))) ∨ ∃ (o : Obj) (its : Array Value) (n : Nat), K.lookup a = some o ∧ o.cls = .type "list" ∧ o.dict = none ∧ o.data = .seq its n ∧ its.size ≤ sizeLine ∧ Vals xs its.toList
theorem SqF.l {K : PySem.W.Frag} {H : Hp} {a : Addr} {xs : List V} (h : SqF K H a xs) : SqL K H a xs := h.elim (fun ⟨o, e⟩ => .inl (.inr ⟨o, e⟩)) .inr
/-- where the cells stand; the caught error, if one is at hand -/
structure Phi where
  f : Nat → Addr
  e : Option (Addr × Option Addr)
  c : Nat → Addr
instance : CoeFun Phi (fun _ => Nat → Addr) := ⟨Phi.f⟩
/-- where the classes stand; the caught error of the except suite that runs -/
structure Cl where
  f : Nat → Addr
  su : Option (Addr × Option Addr)
instance : CoeFun Cl (fun _ => Nat → Addr) := ⟨Cl.f⟩
/-- an instance with such a field may change -/
def mutF : PySem.Str := "trying"
def Imm : HO → Prop
  | .tup _ => True
  | .frz _ _ => True
  | .ins _ _ fs => fs.lookup mutF = none ∧ fs ≠ []
  | .xd _ => True
  | _ => False
mutual
inductive VR (K : PySem.W.Frag) (φ : Phi) (n : Nat) (H : Hp) : W → V → Prop
  | non : VR K φ n H .non .non
  | bl (b : Bool) : VR K φ n H (.bl b) (.bl b)
  | int (i : Int) : VR K φ n H (.int i) (.int i)
  | str (s : List Nat) : okS s → VR K φ n H (.str s) (.str (sS s))
  | ref {i : Nat} : i < n → VR K φ n H (.ref i) (.ref (φ i))
  | err {a : Addr} : φ.e = some (a, none) → VR K φ n H .err (.ref a)
  | errF {a dd : Addr} {f : List Nat} {w : W} {v : V} : φ.e = some (a, some dd) → H dd = some (.xd [(sS f, v)]) → VR K φ n H w v → VR K φ n H (.errF f w) (.ref a)
  | tup {p : Addr} {vs : List V} {ws : List W} : SqT K H p vs → VRs K φ n H ws vs → VR K φ n H (.tup ws) (.ref p)
  | fl {p : Addr} {vs : List V} {ws : List W} : SqF K H p vs → VRs K φ n H ws vs → VR K φ n H (.fl ws) (.ref p)
  | obj {p dx : Addr} {c : Nat} {ns : List (List Nat)} {vs : List V} {ws : List W} : H p = some (.ins (φ.c c) dx ((ns.map sS).zip vs)) → ns.length = vs.length → (((ns.map sS).zip vs).lookup mutF = none ∧ (ns.map sS).zip vs ≠ []) → VRs K φ n H ws vs → VR K φ n H (.obj c ns ws) (.ref p)
inductive VRs (K : PySem.W.Frag) (φ : Phi) (n : Nat) (H : Hp) : List W → List V → Prop
  | nil : VRs K φ n H [] []
  | cons {w : W} {v : V} {ws : List W} {vs : List V} : VR K φ n H w v → VRs K φ n H ws vs → VRs K φ n H (w :: ws) (v :: vs)
end
def Keep (H H' : Hp) : Prop := ∀ p o, Imm o → H p = some o → H' p = some o
structure Ext (φ φ' : Phi) (n : Nat) : Prop where
  ix : ∀ i, i < n → φ' i = φ i
  er : φ'.e = φ.e
  cr : φ'.c = φ.c
theorem Keep.refl (H : Hp) : Keep H H := fun _ _ _ h => h
theorem Keep.trans {H H1 H2 : Hp} (a : Keep H H1) (b : Keep H1 H2) : Keep H H2 := fun p o i h => b p o i (a p o i h)
theorem Keep.tup {K : PySem.W.Frag} {H H' : Hp} (k : Keep H H') {p : Addr} {vs : List V} (h : SqT K H p vs) : SqT K H' p vs := by
  rcases h with (h | ⟨o, h⟩) | h
  · exact .inl (.inl (k _ _ trivial h))
  · exact .inl (.inr ⟨o, k _ _ trivial h⟩)
  · exact .inr h
theorem Keep.fl {K : PySem.W.Frag} {H H' : Hp} (k : Keep H H') {p : Addr} {vs : List V} (h : SqF K H p vs) : SqF K H' p vs := by
  rcases h with ⟨o, h⟩ | h
  · exact .inl ⟨o, k _ _ trivial h⟩
  · exact .inr h
theorem Ext.refl (φ : Phi) (n : Nat) : Ext φ φ n := ⟨fun _ _ => rfl, rfl, rfl⟩
theorem Ext.trans {φ φ1 φ2 : Phi} {n n1 : Nat} (a : Ext φ φ1 n) (b : Ext φ1 φ2 n1) (h : n ≤ n1) : Ext φ φ2 n := ⟨fun i hi => (b.ix i (Nat.lt_of_lt_of_le hi h)).trans (a.ix i hi), b.er.trans a.er, b.cr.trans a.cr⟩
theorem Ext.le {φ φ1 : Phi} {n m : Nat} (a : Ext φ φ1 n) (h : m ≤ n) : Ext φ φ1 m := ⟨fun i hi => a.ix i (Nat.lt_of_lt_of_le hi h), a.er, a.cr⟩
section
variable {K : PySem.W.Frag} {φ φ' : Phi} {n n' : Nat} {H H' : Hp}
mutual
theorem VR.mono (e : Ext φ φ' n) (l : n ≤ n') (k : Keep H H') : ∀ {w : W} {v : V}, VR K φ n H w v → VR K φ' n' H' w v
  | _, _, .non => .non
  | _, _, .bl b => .bl b
  | _, _, .int i => .int i
  | _, _, .str s o => .str s o
  | _, _, .ref (i := i) h => by
    rw [← e.ix i h]
    exact .ref (Nat.lt_of_lt_of_le h l)
  | _, _, .err h => .err (e.er.trans h)
  | _, _, .errF h x r => .errF (e.er.trans h) (k _ _ trivial x) (VR.mono e l k r)
  | _, _, .tup q r => .tup (k.tup q) (VRs.mono e l k r)
  | _, _, .fl q r => .fl (k.fl q) (VRs.mono e l k r)
  | _, _, .obj q d m r => .obj (by rw [e.cr]; exact k _ _ m q) d m (VRs.mono e l k r)
theorem VRs.mono (e : Ext φ φ' n) (l : n ≤ n') (k : Keep H H') : ∀ {ws : List W} {vs : List V}, VRs K φ n H ws vs → VRs K φ' n' H' ws vs
  | _, _, .nil => .nil
  | _, _, .cons r t => .cons (VR.mono e l k r) (VRs.mono e l k t)
end
theorem VRs.length : ∀ {ws : List W} {vs : List V}, VRs K φ n H ws vs → ws.length = vs.length
  | _, _, .nil => rfl
  | _, _, .cons _ t => by rw [List.length_cons, List.length_cons, VRs.length t]
theorem VRs.get : ∀ {ws : List W} {vs : List V} {i : Nat} {w : W}, VRs K φ n H ws vs → ws[i]? = some w → ∃ v, vs[i]? = some v ∧ VR K φ n H w v
  | _, _, _, _, .nil, e => by simp at e
  | _, _, 0, _, .cons r _, e => by simp at e; subst e; exact ⟨_, rfl, r⟩
  | _, _, i + 1, w, .cons _ t, e => by
    obtain ⟨v, h1, h2⟩ := VRs.get (i := i) (w := w) t (by simpa using e)
    exact ⟨v, by simpa using h1, h2⟩
theorem VRs.getV : ∀ {ws : List W} {vs : List V} {i : Nat} {v : V}, VRs K φ n H ws vs → vs[i]? = some v → ∃ w, ws[i]? = some w ∧ VR K φ n H w v
  | _, _, _, _, .nil, e => by simp at e
  | _, _, 0, _, .cons r _, e => by simp at e; subst e; exact ⟨_, rfl, r⟩
  | _, _, i + 1, w, .cons _ t, e => by
    obtain ⟨v, h1, h2⟩ := VRs.getV (i := i) (v := w) t (by simpa using e)
    exact ⟨v, by simpa using h1, h2⟩
theorem VRs.append : ∀ {ws ws' : List W} {vs vs' : List V}, VRs K φ n H ws vs → VRs K φ n H ws' vs' → VRs K φ n H (ws ++ ws') (vs ++ vs')
  | _, _, _, _, .nil, s => s
  | _, _, _, _, .cons r t, s => .cons r (VRs.append t s)
theorem VRs.set {w : W} {v : V} (r : VR K φ n H w v) : ∀ {ws : List W} {vs : List V} (i : Nat), VRs K φ n H ws vs → VRs K φ n H (ws.set i w) (vs.set i v)
  | _, _, _, .nil => .nil
  | _, _, 0, .cons _ t => .cons r t
  | _, _, i + 1, .cons q t => .cons q (VRs.set r i t)
theorem VRs.take : ∀ {ws : List W} {vs : List V} (m : Nat), VRs K φ n H ws vs → VRs K φ n H (ws.take m) (vs.take m)
  | _, _, 0, _ => .nil
  | _, _, _ + 1, .nil => .nil
  | _, _, m + 1, .cons r t => .cons r (VRs.take m t)
theorem VRs.drop : ∀ {ws : List W} {vs : List V} (m : Nat), VRs K φ n H ws vs → VRs K φ n H (ws.drop m) (vs.drop m)
  | _, _, 0, r => r
  | _, _, _ + 1, .nil => .nil
  | _, _, m + 1, .cons _ t => VRs.drop m t
theorem VRs.snoc {ws : List W} {vs : List V} {w : W} {v : V} (t : VRs K φ n H ws vs) (r : VR K φ n H w v) : VRs K φ n H (ws ++ [w]) (vs ++ [v]) := t.append (.cons r .nil)
theorem VRs.dropLast : ∀ {ws : List W} {vs : List V}, VRs K φ n H ws vs → VRs K φ n H ws.dropLast vs.dropLast := fun {ws vs} t => by
  rw [List.dropLast_eq_take, List.dropLast_eq_take, t.length]
  exact t.take _
theorem VRs.reverse : ∀ {ws : List W} {vs : List V}, VRs K φ n H ws vs → VRs K φ n H ws.reverse vs.reverse
  | _, _, .nil => .nil
  | _, _, .cons r t => by
    rw [List.reverse_cons, List.reverse_cons]
    exact (VRs.reverse t).snoc r

/-! ### refs below a bound -/
mutual
/-- refs below n, no caught error -/
inductive Bd (n : Nat) : W → Prop
  | non : Bd n .non
  | bl (b : Bool) : Bd n (.bl b)
  | int (i : Int) : Bd n (.int i)
  | str (s : List Nat) : Bd n (.str s)
  | ref {i : Nat} : i < n → Bd n (.ref i)
  | tup {ws : List W} : Bds n ws → Bd n (.tup ws)
  | fl {ws : List W} : Bds n ws → Bd n (.fl ws)
  | obj {c : Nat} {ns : List (List Nat)} {ws : List W} : Bds n ws → Bd n (.obj c ns ws)
inductive Bds (n : Nat) : List W → Prop
  | nil : Bds n []
  | cons {w : W} {ws : List W} : Bd n w → Bds n ws → Bds n (w :: ws)
end
mutual
theorem VR.bd (he : φ.e = none) : ∀ {w : W} {v : V}, VR K φ n H w v → Bd n w
  | _, _, .non => .non
  | _, _, .bl b => .bl b
  | _, _, .int i => .int i
  | _, _, .str s _ => .str s
  | _, _, .ref h => .ref h
  | _, _, .err h => by rw [he] at h; cases h
  | _, _, .errF h _ _ => by rw [he] at h; cases h
  | _, _, .tup _ r => .tup (VRs.bd he r)
  | _, _, .fl _ r => .fl (VRs.bd he r)
  | _, _, .obj _ _ _ r => .obj (VRs.bd he r)
theorem VRs.bd (he : φ.e = none) : ∀ {ws : List W} {vs : List V}, VRs K φ n H ws vs → Bds n ws
  | _, _, .nil => .nil
  | _, _, .cons r t => .cons (VR.bd he r) (VRs.bd he t)
end
mutual
theorem VR.cut (hf : ∀ i, i < n → φ' i = φ i) (hc : φ'.c = φ.c) : ∀ {w : W} {v : V}, VR K φ n' H w v → Bd n w → VR K φ' n H w v
  | _, _, .non, _ => .non
  | _, _, .bl b, _ => .bl b
  | _, _, .int i, _ => .int i
  | _, _, .str s o, _ => .str s o
  | _, _, .ref _, .ref h => by rw [← hf _ h]; exact .ref h
  | _, _, .tup q r, .tup b => .tup q (VRs.cut hf hc r b)
  | _, _, .fl q r, .fl b => .fl q (VRs.cut hf hc r b)
  | _, _, .obj q d m r, .obj b => .obj (by rw [hc]; exact q) d m (VRs.cut hf hc r b)
theorem VRs.cut (hf : ∀ i, i < n → φ' i = φ i) (hc : φ'.c = φ.c) : ∀ {ws : List W} {vs : List V}, VRs K φ n' H ws vs → Bds n ws → VRs K φ' n H ws vs
  | _, _, .nil, _ => .nil
  | _, _, .cons r t, .cons b c => .cons (VR.cut hf hc r b) (VRs.cut hf hc t c)
end
mutual
theorem Bd.pure : ∀ {w : W}, w.pure = true → Bd n w
  | .non, _ => .non
  | .bl b, _ => .bl b
  | .int i, _ => .int i
  | .str s, _ => .str s
  | .ref i, h => by simp [W.pure] at h
  | .err, h => by simp [W.pure] at h
  | .errF _ _, h => by simp [W.pure] at h
  | .tup ws, h => .tup (Bds.pure (by simpa [W.pure] using h))
  | .fl ws, h => .fl (Bds.pure (by simpa [W.pure] using h))
  | .obj c ns ws, h => .obj (Bds.pure (by simpa [W.pure] using h))
theorem Bds.pure : ∀ {ws : List W}, W.pures ws = true → Bds n ws
  | [], _ => .nil
  | w :: ws, h => by
    rw [W.pures, Bool.and_eq_true] at h
    exact .cons (Bd.pure h.1) (Bds.pure h.2)
end
end

/-! ### the store -/
def keyV : Key → L2.Key
  | .inl i => .inl i
  | .inr s => .inr (sS s)
def okK : Key → Prop
  | .inl _ => True
  | .inr s => okS s
def KR (K : PySem.W.Frag) (φ : Phi) (n : Nat) (H : Hp) : List (Key × W) → List (L2.Key × V) → Prop := Paired fun p q => (q.1 = keyV p.1 ∧ okK p.1) ∧ VR K φ n H p.2 q.2
def FR (K : PySem.W.Frag) (φ : Phi) (n : Nat) (H : Hp) : List (List Nat × W) → List (PySem.Str × V) → Prop := Paired fun p q => q.1 = sS p.1 ∧ VR K φ n H p.2 q.2
def CR (K : PySem.W.Frag) (cls : Cl) (φ : Phi) (n : Nat) (H : Hp) (a : Addr) : Cell → Prop
  | .lst ws => ∃ vs, H a = some (.lst vs) ∧ VRs K φ n H ws vs
  | .dct kvs => ∃ ks, H a = some (.dK ks) ∧ KR K φ n H kvs ks
  | .ins c fs => ∃ dx gs, (H a = some (.ins (cls c) dx gs) ∧ (gs.lookup mutF ≠ none ∨ gs = [])) ∧ FR K φ n H fs gs
structure Cells (K : PySem.W.Frag) (cls : Cl) (φ : Phi) (h : Hs) (H : Hp) : Prop where
  inj : ∀ i j, i < h.length → j < h.length → φ i = φ j → i = j
  noe : φ.e = cls.su
  nof : φ.c = cls.f
  cell : ∀ i c, h[i]? = some c → CR K cls φ h.length H (φ i) c
def Slots (K : PySem.W.Frag) (φ : Phi) (n : Nat) (H : Hp) (ρ : Env) (σ : L2.St) : Prop :=
  ρ.length = σ.length ∧ ∀ (i : Nat) (w : W), ρ[i]? = some (some w) → ∃ v, σ[i]? = some (some v) ∧ VR K φ n H w v
section
variable {K : PySem.W.Frag} {cls : Cl} {φ φ' : Phi} {n n' : Nat} {H H' : Hp} {h : Hs} {ρ : Env} {σ : L2.St}
theorem Slots.mono (s : Slots K φ n H ρ σ) (e : Ext φ φ' n) (l : n ≤ n') (k : Keep H H') : Slots K φ' n' H' ρ σ :=
  ⟨s.1, fun i w hw => by
    obtain ⟨v, h1, h2⟩ := s.2 i w hw
    exact ⟨v, h1, h2.mono e l k⟩⟩
theorem Slots.set (s : Slots K φ n H ρ σ) {i : Nat} {w : W} {v : V} (r : VR K φ n H w v) : Slots K φ n H (ρ.set i (some w)) (σ.set i (some v)) := by
  refine ⟨by rw [List.length_set, List.length_set, s.1], fun j u hu => ?_⟩
  rw [List.getElem?_set] at hu
  rw [List.getElem?_set]
  by_cases e : i = j
  · rw [if_pos e] at hu ⊢
    split at hu
    · rename_i hl
      rw [if_pos (by rw [← s.1]; exact hl)]
      cases hu
      exact ⟨v, rfl, r⟩
    · cases hu
  · rw [if_neg e] at hu ⊢
    exact s.2 j u hu
theorem wipe_slots (s : Slots K φ n H ρ σ) : ∀ (own : List Nat), Slots K φ n H (PF.wipe ρ own) (L2.wipe σ own)
  | [] => s
  | i :: is => by
    have q := wipe_slots s is
    refine ⟨by rw [PF.wipe, L2.wipe, List.length_set, List.length_set, q.1], fun j u hu => ?_⟩
    rw [PF.wipe, List.getElem?_set] at hu
    rw [L2.wipe, List.getElem?_set]
    by_cases e : i = j
    · rw [if_pos e] at hu
      split at hu <;> cases hu
    · rw [if_neg e] at hu ⊢
      exact q.2 j u hu
theorem KR.mono {kvs : List (Key × W)} {ks : List (L2.Key × V)} (e : Ext φ φ' n) (l : n ≤ n') (k : Keep H H') (r : KR K φ n H kvs ks) : KR K φ' n' H' kvs ks := Paired.mapP r fun _ _ z => ⟨z.1, z.2.mono e l k⟩
theorem FR.mono {kvs : List (List Nat × W)} {ks : List (PySem.Str × V)} (e : Ext φ φ' n) (l : n ≤ n') (k : Keep H H') (r : FR K φ n H kvs ks) : FR K φ' n' H' kvs ks := Paired.mapP r fun _ _ z => ⟨z.1, z.2.mono e l k⟩
/-- a cell, when the heap changes elsewhere -/
theorem CR.mono {a a' : Addr} {c : Cell} (e : Ext φ φ' n) (l : n ≤ n') (k : Keep H H') (ha : a' = a) (hs : ∀ o, H a = some o → H' a = some o) (r : CR K cls φ n H a c) : CR K cls φ' n' H' a' c := by
  subst ha
  cases c with
  | lst ws => obtain ⟨vs, h1, h2⟩ := r; exact ⟨vs, hs _ h1, h2.mono e l k⟩
  | dct kvs => obtain ⟨vs, h1, h2⟩ := r; exact ⟨vs, hs _ h1, h2.mono e l k⟩
  | ins c fs => obtain ⟨dx, vs, h1, h2⟩ := r; exact ⟨dx, vs, ⟨hs _ h1.1, h1.2⟩, h2.mono e l k⟩

/-- a new object at p -/
theorem keep_new {p : Addr} {o : HO} (hp : H p = none) : Keep H (upd H p o) := fun q u _ r => by
  rw [upd_ne (ne_of_none r hp)]
  exact r
/-- the object at a, no tuple, is changed -/
theorem keep_set {a : Addr} {o u : HO} (ha : H a = some u) (hu : ¬ Imm u) : Keep H (upd H a o) := fun q v i r => by
  have : q ≠ a := by
    rintro rfl
    rw [ha] at r
    cases r
    exact hu i
  rw [upd_ne this]
  exact r
theorem CR.has {a : Addr} {c : Cell} (r : CR K cls φ n H a c) : ∃ o, H a = some o ∧ ¬ Imm o := by
  cases c with
  | lst ws => obtain ⟨vs, h1, _⟩ := r; exact ⟨_, h1, fun z => z⟩
  | dct ws => obtain ⟨vs, h1, _⟩ := r; exact ⟨_, h1, fun z => z⟩
  | ins c ws => obtain ⟨dx, vs, h1, _⟩ := r; exact ⟨_, h1.1, fun z => h1.2.elim (fun y => y z.1) z.2⟩
theorem Cells.has (C : Cells K cls φ h H) {i : Nat} (hi : i < h.length) : ∃ o, H (φ i) = some o ∧ ¬ Imm o := (C.cell i _ (List.getElem?_eq_getElem hi)).has
theorem Cells.ne_new (C : Cells K cls φ h H) {p : Addr} (hp : H p = none) {i : Nat} (hi : i < h.length) : φ i ≠ p := by
  obtain ⟨o, e, _⟩ := C.has hi
  exact ne_of_none e hp
/-- an address more -/
def put (φ : Phi) (n : Nat) (p : Addr) : Phi := ⟨fun i => if i = n then p else φ i, φ.e, φ.c⟩
theorem put_ext (φ : Phi) (n : Nat) (p : Addr) : Ext φ (put φ n p) n := ⟨fun i hi => by
  show (if i = n then p else φ i) = φ i
  rw [if_neg (Nat.ne_of_lt hi)], rfl, rfl⟩
theorem put_at (φ : Phi) (n : Nat) (p : Addr) : put φ n p n = p := by
  show (if n = n then p else φ n) = p
  rw [if_pos rfl]
/-- a new cell -/
theorem Cells.new (C : Cells K cls φ h H) {p : Addr} {o : HO} {c : Cell} (hp : H p = none) (hc : CR K cls (put φ h.length p) (h.length + 1) (upd H p o) p c) : Cells K cls (put φ h.length p) (h ++ [c]) (upd H p o) := by
  refine ⟨fun i j hi hj e => ?_, C.noe, C.nof, fun i d hd => ?_⟩
  · rw [List.length_append, List.length_singleton] at hi hj
    by_cases e1 : i = h.length
    · by_cases e2 : j = h.length
      · rw [e1, e2]
      · rw [e1, put_at, (put_ext φ h.length p).ix j (by omega)] at e
        exact absurd e.symm (C.ne_new hp (by omega))
    · by_cases e2 : j = h.length
      · rw [e2, put_at, (put_ext φ h.length p).ix i (by omega)] at e
        exact absurd e (C.ne_new hp (by omega))
      · rw [(put_ext φ h.length p).ix i (by omega), (put_ext φ h.length p).ix j (by omega)] at e
        exact C.inj i j (by omega) (by omega) e
  · rw [List.length_append, List.length_singleton]
    by_cases hi : i < h.length
    · rw [List.getElem?_append_left hi] at hd
      exact (C.cell i d hd).mono (put_ext _ _ _) (Nat.le_succ _) (keep_new hp) ((put_ext φ h.length p).ix i hi) fun u e => by
        rw [upd_ne (ne_of_none e hp)]
        exact e
    · rw [List.getElem?_append_right (by omega)] at hd
      have e1 : i - h.length = 0 := by
        rcases Nat.eq_zero_or_pos (i - h.length) with z | z
        · exact z
        · rw [List.getElem?_eq_none (by rw [List.length_singleton]; omega)] at hd
          cases hd
      rw [e1] at hd
      cases hd
      have e2 : i = h.length := by omega
      rw [e2, put_at]
      exact hc
/-- a cell changed -/
theorem Cells.chg (C : Cells K cls φ h H) {i : Nat} {o : HO} {c : Cell} (hi : i < h.length) (hc : CR K cls φ h.length (upd H (φ i) o) (φ i) c) : Cells K cls φ (h.set i c) (upd H (φ i) o) := by
  obtain ⟨u, hu, nu⟩ := C.has hi
  refine ⟨by rw [List.length_set]; exact C.inj, C.noe, C.nof, fun j d hd => ?_⟩
  rw [List.length_set]
  rw [List.getElem?_set] at hd
  by_cases e : i = j
  · rw [if_pos e, if_pos (by omega)] at hd
    cases hd
    rw [← e]
    exact hc
  · rw [if_neg e] at hd
    have hj : j < h.length := (List.getElem?_eq_some_iff.mp hd).1
    have ne : φ j ≠ φ i := fun z => e (C.inj j i hj hi z).symm
    exact (C.cell j d hd).mono (Ext.refl _ _) (Nat.le_refl _) (keep_set hu nu) rfl fun u e => by
      rw [upd_ne ne]
      exact e
/-- a tuple more, or anything else that is no cell -/
theorem Cells.other (C : Cells K cls φ h H) {p : Addr} {o : HO} (hp : H p = none) : Cells K cls φ h (upd H p o) :=
  ⟨C.inj, C.noe, C.nof, fun i d hd => (C.cell i d hd).mono (Ext.refl _ _) (Nat.le_refl _) (keep_new hp) rfl fun u e => by
    rw [upd_ne (ne_of_none e hp)]
    exact e⟩
/-- refs below a bound, in a cell -/
def BdC (n : Nat) : Cell → Prop
  | .lst ws => Bds n ws
  | .dct kvs => Bds n (kvs.map Prod.snd)
  | .ins _ fs => Bds n (fs.map Prod.snd)
theorem KR.bd (he : φ.e = none) : ∀ {kvs : List (Key × W)} {ks : List (L2.Key × V)}, KR K φ n H kvs ks → Bds n (kvs.map Prod.snd)
  | _, _, .nil => .nil
  | _, _, .cons z t => .cons (z.2.bd he) (KR.bd he t)
theorem FR.bd (he : φ.e = none) : ∀ {kvs : List (List Nat × W)} {ks : List (PySem.Str × V)}, FR K φ n H kvs ks → Bds n (kvs.map Prod.snd)
  | _, _, .nil => .nil
  | _, _, .cons z t => .cons (z.2.bd he) (FR.bd he t)
theorem KR.cut (hf : ∀ i, i < n → φ' i = φ i) (hp : φ'.c = φ.c) : ∀ {kvs : List (Key × W)} {ks : List (L2.Key × V)}, KR K φ n' H kvs ks → Bds n (kvs.map Prod.snd) → KR K φ' n H kvs ks
  | _, _, .nil, _ => .nil
  | _, _, .cons z t, .cons y b => .cons ⟨z.1, z.2.cut hf hp y⟩ (KR.cut hf hp t b)
theorem FR.cut (hf : ∀ i, i < n → φ' i = φ i) (hp : φ'.c = φ.c) : ∀ {kvs : List (List Nat × W)} {ks : List (PySem.Str × V)}, FR K φ n' H kvs ks → Bds n (kvs.map Prod.snd) → FR K φ' n H kvs ks
  | _, _, .nil, _ => .nil
  | _, _, .cons z t, .cons y b => .cons ⟨z.1, z.2.cut hf hp y⟩ (FR.cut hf hp t b)
theorem CR.bd (he : φ.e = none) {a : Addr} {c : Cell} (r : CR K cls φ n H a c) : BdC n c := by
  cases c with
  | lst ws => obtain ⟨vs, h1, h2⟩ := r; exact h2.bd he
  | dct kvs => obtain ⟨vs, h1, h2⟩ := r; exact KR.bd he h2
  | ins c fs => obtain ⟨dx, vs, h1, h2⟩ := r; exact FR.bd he h2
theorem BdC.pure {c : Cell} (h : c.pure = true) : BdC n c := by
  cases c with
  | lst ws => exact Bds.pure h
  | dct kvs => exact Bds.pure h
  | ins c fs => exact Bds.pure h
theorem CR.cut {cls' : Cl} (hf : ∀ i, i < n → φ' i = φ i) (hp : φ'.c = φ.c) (hc : cls'.f = cls.f) {a : Addr} {c : Cell} (r : CR K cls φ n' H a c) (b : BdC n c) : CR K cls' φ' n H a c := by
  cases c with
  | lst ws => obtain ⟨vs, h1, h2⟩ := r; exact ⟨vs, h1, h2.cut hf hp b⟩
  | dct kvs => obtain ⟨vs, h1, h2⟩ := r; exact ⟨vs, h1, KR.cut hf hp h2 b⟩
  | ins c fs => obtain ⟨dx, vs, h1, h2⟩ := r; exact ⟨dx, vs, by rw [hc]; exact h1, FR.cut hf hp h2 b⟩
/-- a cell, when what changes is elsewhere and nothing fixed changes -/
theorem CR.heap {a : Addr} {c : Cell} (k : Keep H H') (ha : H' a = H a) (r : CR K cls φ n H a c) : CR K cls φ n H' a c := CR.mono (Ext.refl _ _) (Nat.le_refl _) k rfl (fun o e => by rw [ha]; exact e) r
/-- what stood ahead is as it was, or plain -/
theorem tame_of {h h' : Hs} (t : tame h h' = true) : h.length ≤ h'.length ∧ ∀ (i : Nat) (c : Cell), i < h.length → h'[i]? = some c → h[i]? = some c ∨ c.pure = true := by
  unfold tame at t
  rw [Bool.and_eq_true, decide_eq_true_eq, List.all_eq_true] at t
  refine ⟨t.1, fun i c hi hc => ?_⟩
  have := t.2 i (List.mem_range.mpr hi)
  rw [hc] at this
  rcases Bool.or_eq_true _ _ |>.mp this with z | z
  · exact .inl (of_decide_eq_true z).symm
  · exact .inr z
/-- fewer cells: h', then h.length of them -/
theorem Cells.less {h' : Hs} {cls' cls0 : Cl} {φ0 φ'' : Phi} {H0 : Hp} (C : Cells K cls φ h' H) (C0 : Cells K cls0 φ0 h H0) (he : φ0.e = none) (hc : cls'.f = cls.f) (hf : ∀ i, i < h.length → φ'' i = φ i) (hp : φ''.c = φ.c) (hn : φ''.e = cls'.su) (t : tame h h' = true) : Cells K cls' φ'' (h'.take h.length) H := by
  obtain ⟨hl, ht⟩ := tame_of t
  have len : (h'.take h.length).length = h.length := by rw [List.length_take]; omega
  refine ⟨fun i j hi hj ee => C.inj i j (by omega) (by omega) (by rw [← hf i (by omega), ← hf j (by omega)]; exact ee), hn, hp.trans (C.nof.trans hc.symm), fun i d hd => ?_⟩
  have hi : i < h.length := by have := (List.getElem?_eq_some_iff.mp hd).1; omega
  rw [List.getElem?_take, if_pos hi] at hd
  have r := C.cell i d hd
  rw [len, hf i hi]
  refine CR.cut hf hp hc r ?_
  rcases ht i d hi hd with z | z
  · exact (C0.cell i d z).bd he
  · exact .pure z
end
end PF
namespace PF
open PySem PySem.Spec PyProof.Rows L2
/-! ### what is wanted of a result -/
abbrev Rl (α β : Type) := Phi → Nat → Hp → α → β → Prop
/-- an exception's own dict -/
def PR (K : PySem.W.Frag) (φ : Phi) (n : Nat) (H : Hp) : Pay → Option Addr → Prop
  | none, d => d = none
  | some (f, w), d => ∃ a v, d = some a ∧ H a = some (.xd [(sS f, v)]) ∧ VR K φ n H w v
def Post {α β : Type} (K : PySem.W.Frag) (cls : Cl) (R : Rl α β) (φ : Phi) (n : Nat) (H0 : Hp) (E : XK) (Q : β → Hp → Prop) : Res α → Prop
  | .ok a h' => ∀ (φ' : Phi) (b : β) (H' : Hp), Ext φ φ' n → Keep H0 H' → Cells K cls φ' h' H' → R φ' h'.length H' a b → Q b H'
  | .exc c p h' => ∀ (φ' : Phi) (d : Option Addr) (H' : Hp), Ext φ φ' n → Keep H0 H' → Cells K cls φ' h' H' → PR K φ' h'.length H' p d → E (.ref (cls c)) d H'
  | .stuck => False
def grows {α : Type} (n : Nat) : Res α → Prop
  | .ok _ h' => n ≤ h'.length
  | .exc _ _ h' => n ≤ h'.length
  | .stuck => True
/-- one step further -/
structure Go {α β : Type} (K : PySem.W.Frag) (cls : Cl) (R : Rl α β) (φ : Phi) (n : Nat) (H0 : Hp) (φ1 : Phi) (a : α) (h1 : Hs) (b : β) (H1 : Hp) : Prop where
  e : Ext φ φ1 n
  l : n ≤ h1.length
  k : Keep H0 H1
  C : Cells K cls φ1 h1 H1
  r : R φ1 h1.length H1 a b
section
variable {α β γ δ : Type} {K : PySem.W.Frag} {cls : Cl} {R : Rl α β} {R' : Rl γ δ} {φ φ1 : Phi} {n n1 : Nat} {H0 H1 : Hp} {E : XK}
theorem Post.mono {Q Q' : β → Hp → Prop} {r : Res α} (p : Post K cls R φ n H0 E Q r) (q : ∀ b H, Q b H → Q' b H) : Post K cls R φ n H0 E Q' r := by
  cases r with
  | ok a h' => exact fun φ' b H' e k C r => q b H' (p φ' b H' e k C r)
  | exc c y h' => exact p
  | stuck => exact p
theorem Post.later {Q : β → Hp → Prop} {r : Res α} (p : Post K cls R φ n H0 E Q r) (e1 : Ext φ φ1 n) (l : n ≤ n1) (k1 : Keep H0 H1) : Post K cls R φ1 n1 H1 E Q r := by
  cases r with
  | ok a h' => exact fun φ' b H' e k C r => p φ' b H' (e1.trans e l) (k1.trans k) C r
  | exc c y h' => exact fun φ' b H' e k C r => p φ' b H' (e1.trans e l) (k1.trans k) C r
  | stuck => exact p
theorem Post.bind {Q : δ → Hp → Prop} {r : Res α} {f : α → Hs → Res γ} (g : grows n r) (p : Post K cls R' φ n H0 E Q (r.bind f)) :
    Post K cls R φ n H0 E (fun b H1 => ∃ φ1 a h1, Go K cls R φ n H0 φ1 a h1 b H1 ∧ Post K cls R' φ1 h1.length H1 E Q (f a h1)) r := by
  cases r with
  | ok a h' => exact fun φ' b H' e k C r => ⟨φ', a, h', ⟨e, g, k, C, r⟩, Post.later p e g k⟩
  | exc c y h' => exact p
  | stuck => exact p
theorem grows.bind {r : Res α} {f : α → Hs → Res γ} (g : grows n r) (q : ∀ a h, r = .ok a h → n ≤ h.length → grows n (f a h)) : grows n (r.bind f) := by
  cases r with
  | ok a h' => exact q a h' rfl g
  | exc c y h' => exact g
  | stuck => trivial
theorem grows.le {r : Res α} (g : grows n1 r) (l : n ≤ n1) : grows n r := by
  cases r with
  | ok a h' => exact Nat.le_trans l g
  | exc c y h' => exact Nat.le_trans l g
  | stuck => trivial
theorem Post.noX {Q : β → Hp → Prop} {E' : XK} {r : Res α} (p : Post K cls R φ n H0 E Q r.noX) : Post K cls R φ n H0 E' Q r := by
  cases r with
  | ok a h' => exact p
  | exc c y h' => exact p.elim
  | stuck => exact p
theorem grows.noX {r : Res α} (g : grows n r) : grows n r.noX := by
  cases r with
  | ok a h' => exact g
  | exc c y h' => trivial
  | stuck => trivial
end
def rW (K : PySem.W.Frag) : Rl W V := fun φ n H w v => VR K φ n H w v
def rWs (K : PySem.W.Frag) : Rl (List W) (List V) := fun φ n H w v => VRs K φ n H w v
def rB : Rl Bool Bool := fun _ _ _ a b => a = b
/-- at hand: the store, the slots -/
structure At (K : PySem.W.Frag) (cls : Cl) (φ : Phi) (h : Hs) (ρ : Env) (σ : L2.St) (H : Hp) : Prop where
  C : Cells K cls φ h H
  S : Slots K φ h.length H ρ σ
theorem At.go {α β : Type} {K : PySem.W.Frag} {cls : Cl} {R : Rl α β} {φ φ1 : Phi} {h h1 : Hs} {ρ : Env} {σ : L2.St} {H H1 : Hp} {a : α} {b : β} (x : At K cls φ h ρ σ H) (g : Go K cls R φ h.length H φ1 a h1 b H1) : At K cls φ1 h1 ρ σ H1 :=
  ⟨g.C, x.S.mono g.e g.l g.k⟩
/-- the reading of what is reckoned at slots and store -/
def tG {α β : Type} (K : PySem.W.Frag) (cls : Cl) (R : Rl α β) (W : WX) (d : Env → Hs → Res α) : L2.St → Hp → (β → Hp → Prop) → Prop := fun σ H Q =>
  ∃ φ h ρ, At K cls φ h ρ σ H ∧ Post K cls R φ h.length H (fun c d H' => W c d σ H') Q (d ρ h)
theorem tG.mono {α β : Type} {K : PySem.W.Frag} {cls : Cl} {R : Rl α β} {W : WX} {d : Env → Hs → Res α} {σ : L2.St} {H : Hp} {Q Q' : β → Hp → Prop} (t : tG K cls R W d σ H Q) (q : ∀ b H, Q b H → Q' b H) : tG K cls R W d σ H Q' :=
  let ⟨φ, h, ρ, x, p⟩ := t
  ⟨φ, h, ρ, x, p.mono q⟩
/-- the first of two: what stands behind it -/
theorem At.first {α β γ δ : Type} {K : PySem.W.Frag} {cls : Cl} {R : Rl α β} {R' : Rl γ δ} {W : WX} {φ : Phi} {h : Hs} {ρ : Env} {σ : L2.St} {H : Hp} {d : Env → Hs → Res α} {f : α → Hs → Res γ} {Q : δ → Hp → Prop} (x : At K cls φ h ρ σ H) (g : grows h.length (d ρ h))
    (p : Post K cls R' φ h.length H (fun c d H' => W c d σ H') Q ((d ρ h).bind f)) {Q1 : β → Hp → Prop}
    (q : ∀ b H1 φ1 a h1, Go K cls R φ h.length H φ1 a h1 b H1 → At K cls φ1 h1 ρ σ H1 → Post K cls R' φ1 h1.length H1 (fun c d H' => W c d σ H') Q (f a h1) → Q1 b H1) : tG K cls R W d σ H Q1 :=
  ⟨φ, h, ρ, x, (p.bind g).mono fun b H1 ⟨φ1, a, h1, go, p1⟩ => q b H1 φ1 a h1 go (x.go go) p1⟩
def Grow {α : Type} (d : Env → Hs → Res α) : Prop := ∀ ρ h, grows h.length (d ρ h)
theorem _root_.L2.PE.imp {X : Cx} {e : Expr} {t t' : TE} (h : PE X e t) (i : ∀ σ H Q, t' σ H Q → t σ H Q) : PE X e t' := ⟨fun pins s σ H Q I q => h.run pins s σ H Q I (i _ _ _ q)⟩
theorem _root_.L2.PT.imp {X : Cx} {e : Expr} {t t' : TT} (h : PT X e t) (i : ∀ σ H Q, t' σ H Q → t σ H Q) : PT X e t' := ⟨fun pins s σ H Q I q => h.run pins s σ H Q I (i _ _ _ q)⟩
theorem _root_.L2.PW.imp {X : Cx} {e : Expr} {t t' : TT} (h : PW X e t) (i : ∀ σ H Q, t' σ H Q → t σ H Q) : PW X e t' := ⟨fun w pins s σ H Q I q => h.run w pins s σ H Q I (i _ _ _ q)⟩
theorem _root_.L2.PA.imp {X : Cx} {e : List Expr} {t t' : TA} (h : PA X e t) (i : ∀ σ H Q, t' σ H Q → t σ H Q) : PA X e t' := ⟨fun p pins s σ H Q I q => h.run p pins s σ H Q I (i _ _ _ q)⟩
theorem _root_.L2.PS.imp {X : Cx} {e : Stmt} {t t' : TS} (h : PS X e t) (i : ∀ D σ H, t' D σ H → t D σ H) : PS X e t' := ⟨fun pins s σ H D I q => h.run pins s σ H D I (i _ _ _ q)⟩
theorem _root_.L2.PSs.imp {X : Cx} {e : List Stmt} {t t' : TS} (h : PSs X e t) (i : ∀ D σ H, t' D σ H → t D σ H) : PSs X e t' := ⟨fun pins s σ H D I q => h.run pins s σ H D I (i _ _ _ q)⟩
/-! ### the judgements -/
structure RE (X : Cx) (cls : Cl) (W : WX) (e : Expr) (d : D) : Prop where
  pe : PE X e (tG X.K cls (rW X.K) W d)
  g : Grow d
structure RT (X : Cx) (cls : Cl) (W : WX) (e : Expr) (d : T) : Prop where
  pt : PT X e (tG X.K cls rB W d)
  g : Grow d
structure RW (X : Cx) (cls : Cl) (W : WX) (e : Expr) (d : T) : Prop where
  pw : PW X e (tG X.K cls rB W d)
  g : Grow d
structure RA (X : Cx) (cls : Cl) (W : WX) (e : List Expr) (d : As) : Prop where
  pa : PA X e (tG X.K cls (rWs X.K) W d)
  g : Grow d
section
variable {X : Cx} {cls : Cl} {W : WX}
theorem tG.ok {α β : Type} {K : PySem.W.Frag} {R : Rl α β} {d : Env → Hs → Res α} {σ : L2.St} {H : Hp} {Q : β → Hp → Prop} {P : Prop} (t : tG K cls R W d σ H Q) (q : ∀ φ h ρ, At K cls φ h ρ σ H → Post K cls R φ h.length H (fun c d H' => W c d σ H') Q (d ρ h) → P) : P :=
  let ⟨φ, h, ρ, x, p⟩ := t
  q φ h ρ x p
/-! ### names, constants -/
theorem re_v (i : Nat) {x : PySem.Str} {pos : Pos} (hN : X.N[i]? = some x := by rfl) (hv : Vis X.env.scope x := by first | exact Or.inl rfl | exact Or.inr (Or.inl rfl) | exact Or.inr (Or.inr rfl)) (hd : (x == ("__debug__" : PySem.Str)) = false := by decide)
    (hcd : (x == ("__classdict__" : PySem.Str)) = false := by decide) : RE X cls W (.Name x pos) (dV i) := by
  refine ⟨(pe_var hN hv hd hcd).imp fun σ H Q t => t.ok fun φ h ρ x p => ?_, fun ρ h => ?_⟩
  · unfold dV at p
    split at p
    · rename_i w e
      obtain ⟨v, h1, h2⟩ := x.S.2 i w e
      exact ⟨v, h1, p φ v H (Ext.refl _ _) (Keep.refl _) x.C h2⟩
    · exact p.elim
  · unfold dV
    split
    · exact Nat.le_refl _
    · trivial
theorem grow_c (w : PF.W) : Grow (dC w) := fun _ _ => Nat.le_refl _
theorem re_c {e : Expr} {w : PF.W} {v : V} (h : PE X e (tC v)) (r : ∀ φ n H, VR X.K φ n H w v) : RE X cls W e (dC w) :=
  ⟨h.imp fun σ H Q t => t.ok fun φ h ρ x p => p φ v H (Ext.refl _ _) (Keep.refl _) x.C (r _ _ _), grow_c w⟩
theorem re_int {i : Int} {j : Tok} {pos : Pos} : RE X cls W (.Constant (.int i) j pos) (dC (.int i)) := re_c pe_int fun _ _ _ => .int i
theorem re_bl {i : Bool} {j : Tok} {pos : Pos} : RE X cls W (.Constant (.bool i) j pos) (dC (.bl i)) := re_c pe_bl fun _ _ _ => .bl i
theorem re_non {j : Tok} {pos : Pos} : RE X cls W (.Constant .none j pos) (dC .non) := re_c pe_non fun _ _ _ => .non
theorem re_str {z : PySem.Str} {j : Tok} {pos : Pos} (s : List Nat) (hs : z = sS s := by rfl) (ho : okS s := by decide) : RE X cls W (.Constant (.str z) j pos) (dC (.str s)) := by
  subst hs
  exact re_c pe_str fun _ _ _ => .str s ho
theorem re_glob {x : PySem.Str} {u : Value} {pos : Pos} (w : PF.W) (v : V) (hg : Gl X x) (hm : X.mg x = some u) (r : RelV v u) (q : ∀ φ n H, VR X.K φ n H w v) (hd : (x == ("__debug__" : PySem.Str)) = false := by decide) : RE X cls W (.Name x pos) (dC w) := re_c (pe_glob hg hm r hd) q
/-! ### operators by values -/
def rO (K : PySem.W.Frag) (cls : Cl) (o : PF.W → PF.W → Hs → Res PF.W) : R2 := fun x y H Q => ∃ φ h w u E, Cells K cls φ h H ∧ VR K φ h.length H w x ∧ VR K φ h.length H u y ∧ Post K cls (rW K) φ h.length H E Q (o w u h)
def GrO (o : PF.W → PF.W → Hs → Res PF.W) : Prop := ∀ w u h, grows h.length (o w u h)
theorem grow_bin {o : PF.W → PF.W → Hs → Res PF.W} {a b : D} (go : GrO o) (ga : Grow a) (gb : Grow b) : Grow (dBin o a b) := fun ρ h =>
  (ga ρ h).bind fun x h1 _ l1 => ((gb ρ h1).le l1).bind fun y h2 _ l2 => (go x y h2).le l2
theorem tG.bin {o : PF.W → PF.W → Hs → Res PF.W} {da db : D} (ga : Grow da) (gb : Grow db) {σ : L2.St} {H : Hp} {Q : VK} (t : tG X.K cls (rW X.K) W (dBin o da db) σ H Q) : tOp (rO X.K cls o) (tG X.K cls (rW X.K) W da) (tG X.K cls (rW X.K) W db) σ H Q :=
  t.ok fun φ h ρ x p => x.first (ga ρ h) p fun v H1 φ1 w1 h1 g1 x1 p1 => x1.first (gb ρ h1) p1 fun u H2 φ2 w2 h2 g2 x2 p2 =>
    ⟨φ2, h2, w1, w2, _, g2.C, VR.mono g2.e g2.l g2.k g1.r, g2.r, p2⟩
theorem re_bin {op : Operator} {o : PF.W → PF.W → Hs → Res PF.W} {a b : Expr} {da db : D} {pos : Pos} (ho : OpR X (binaryOp op) (rO X.K cls o)) (go : GrO o) (ha : RE X cls W a da) (hb : RE X cls W b db) : RE X cls W (.BinOp a op b pos) (dBin o da db) :=
  ⟨(pe_op ho ha.pe hb.pe).imp fun _ _ _ t => t.bin ha.g hb.g, grow_bin go ha.g hb.g⟩
theorem re_cmp {op : CmpOp} {o : PF.W → PF.W → Hs → Res PF.W} {a b : Expr} {da db : D} {pos : Pos} (ho : OpR X (compareOp op) (rO X.K cls o)) (go : GrO o) (ha : RE X cls W a da) (hb : RE X cls W b db) (hm : behindInMarks op b = false) : RE X cls W (.Compare a [op] [b] pos) (dBin o da db) :=
  ⟨(pe_cmpR ho ha.pe hb.pe hm).imp fun _ _ _ t => t.bin ha.g hb.g, grow_bin go ha.g hb.g⟩
theorem grow_val {a : D} (ga : Grow a) : Grow (tVal a) := fun ρ h => (ga ρ h).bind fun x h1 _ l1 => by
  unfold asB
  split
  · exact l1
  · trivial
theorem tG.val {d : D} {σ : L2.St} {H : Hp} {Q : Bool → Hp → Prop} (ga : Grow d) (t : tG X.K cls rB W (tVal d) σ H Q) : tB (tG X.K cls (rW X.K) W d) σ H Q :=
  t.ok fun φ h ρ x p => x.first (ga ρ h) p fun v H1 φ1 w1 h1 g1 x1 p1 => by
    unfold asB at p1
    split at p1
    · have := g1.r
      cases this
      exact ⟨_, rfl, p1 φ1 _ H1 (Ext.refl _ _) (Keep.refl _) g1.C rfl⟩
    · exact p1.elim
theorem rt_val {e : Expr} {d : D} (h : RE X cls W e d) (he : ∀ whole, PySem.isTrue e X.env whole = (do let v ← whole; standAt e.pos; holding [v] (truthy v)) := by intro _; rfl) : RT X cls W e (tVal d) := ⟨(pt_val h.pe he).imp fun _ _ _ t => t.val h.g, grow_val h.g⟩
theorem rt_cmp {op : CmpOp} {o : PF.W → PF.W → Hs → Res PF.W} {a b : Expr} {da db : D} {pos : Pos} (ho : OpR X (compareOp op) (rO X.K cls o)) (go : GrO o) (ha : RE X cls W a da) (hb : RE X cls W b db) (hm : behindInMarks op b = false) : RT X cls W (.Compare a [op] [b] pos) (tVal (dBin o da db)) :=
  ⟨(pt_cmpR ho ha.pe hb.pe hm).imp fun σ H Q t => (t.val (grow_bin go ha.g hb.g)).bin ha.g hb.g, grow_val (grow_bin go ha.g hb.g)⟩
end
end PF
namespace PF
open PySem PySem.Spec PyProof.Rows L2
section
variable {X : Cx} {cls : Cl} {W : WX} {a b c : Expr} {rest : List Expr} {pos : Pos} {da db dc : D} {ta tb : T}
/-! ### and, or, not -/
theorem asB_grows {α : Type} {n : Nat} {w : PF.W} {k : Bool → Res α} (h : ∀ b, grows n (k b)) : grows n (asB w k) := by
  unfold asB
  split
  · exact h _
  · trivial
theorem asB_post {α β : Type} {K : PySem.W.Frag} {R : Rl α β} {φ : Phi} {n m : Nat} {H H' : Hp} {E : XK} {Q : β → Hp → Prop} {w : PF.W} {v : V} {k : Bool → Res α} (r : VR K φ m H' w v) (p : Post K cls R φ n H E Q (asB w k)) : ∃ c, v = .bl c ∧ Post K cls R φ n H E Q (k c) := by
  unfold asB at p
  split at p
  · cases r
    exact ⟨_, rfl, p⟩
  · exact p.elim
theorem re_one {op : BoolOp} (h : RE X cls W a da) : RE X cls W (.BoolOp op [a] pos) da := ⟨pe_one h.pe, h.g⟩
theorem re_and (ha : RE X cls W a da) (hb : RE X cls W (.BoolOp .And (b :: rest) pos) db) : RE X cls W (.BoolOp .And (a :: b :: rest) pos) (dAnd da db) :=
  ⟨(pe_and ha.pe hb.pe).imp fun σ H Q t => t.ok fun φ h ρ x p => x.first (ha.g ρ h) p fun v H1 φ1 w1 h1 g1 x1 p1 => by
    obtain ⟨c, rfl, p2⟩ := asB_post g1.r p1
    refine ⟨c, rfl, ?_⟩
    split
    · rename_i e
      rw [if_pos e] at p2
      exact ⟨φ1, h1, ρ, x1, p2⟩
    · rename_i e
      rw [if_neg e] at p2
      exact p2 φ1 _ H1 (Ext.refl _ _) (Keep.refl _) g1.C (.bl false),
   fun ρ h => (ha.g ρ h).bind fun x h1 _ l1 => asB_grows fun c => by
    split
    · exact (hb.g ρ h1).le l1
    · exact l1⟩
theorem re_or (ha : RE X cls W a da) (hb : RE X cls W (.BoolOp .Or (b :: rest) pos) db) : RE X cls W (.BoolOp .Or (a :: b :: rest) pos) (dOr da db) :=
  ⟨(pe_or ha.pe hb.pe).imp fun σ H Q t => t.ok fun φ h ρ x p => x.first (ha.g ρ h) p fun v H1 φ1 w1 h1 g1 x1 p1 => by
    obtain ⟨c, rfl, p2⟩ := asB_post g1.r p1
    refine ⟨c, rfl, ?_⟩
    split
    · rename_i e
      rw [if_pos e] at p2
      exact p2 φ1 _ H1 (Ext.refl _ _) (Keep.refl _) g1.C (.bl true)
    · rename_i e
      rw [if_neg e] at p2
      exact ⟨φ1, h1, ρ, x1, p2⟩,
   fun ρ h => (ha.g ρ h).bind fun x h1 _ l1 => asB_grows fun c => by
    split
    · exact l1
    · exact (hb.g ρ h1).le l1⟩
theorem re_not (ha : RE X cls W a da) : RE X cls W (.UnaryOp .Not a pos) (dNot da) :=
  ⟨(pe_not ha.pe).imp fun σ H Q t => t.ok fun φ h ρ x p => x.first (ha.g ρ h) p fun v H1 φ1 w1 h1 g1 x1 p1 => by
    obtain ⟨c, rfl, p2⟩ := asB_post g1.r p1
    exact ⟨c, rfl, p2 φ1 _ H1 (Ext.refl _ _) (Keep.refl _) g1.C (.bl _)⟩,
   fun ρ h => (ha.g ρ h).bind fun x h1 _ l1 => asB_grows fun c => l1⟩
theorem rt_w {t : T} (h : RW X cls W a t) : RT X cls W a t := ⟨h.pw.pt, h.g⟩
theorem rw_and1 (h : RT X cls W a ta) : RW X cls W (.BoolOp .And [a] pos) ta := ⟨pw_and1 h.pt, h.g⟩
theorem rw_or1 (h : RT X cls W a ta) : RW X cls W (.BoolOp .Or [a] pos) ta := ⟨pw_or1 h.pt, h.g⟩
theorem rw_and (ha : RT X cls W a ta) (hb : RW X cls W (.BoolOp .And (b :: rest) pos) tb) : RW X cls W (.BoolOp .And (a :: b :: rest) pos) (PF.tAnd ta tb) :=
  ⟨(pw_and ha.pt hb.pw).imp fun σ H Q t => t.ok fun φ h ρ x p => x.first (ha.g ρ h) p fun v H1 φ1 w1 h1 g1 x1 p1 => by
    have e : w1 = v := g1.r
    subst e
    split
    · rename_i e
      rw [if_pos e] at p1
      exact ⟨φ1, h1, ρ, x1, p1⟩
    · rename_i e
      rw [if_neg e] at p1
      exact p1 φ1 _ H1 (Ext.refl _ _) (Keep.refl _) g1.C rfl,
   fun ρ h => (ha.g ρ h).bind fun c h1 _ l1 => by
    split
    · exact (hb.g ρ h1).le l1
    · exact l1⟩
theorem rw_or (ha : RT X cls W a ta) (hb : RW X cls W (.BoolOp .Or (b :: rest) pos) tb) : RW X cls W (.BoolOp .Or (a :: b :: rest) pos) (PF.tOr ta tb) :=
  ⟨(pw_or ha.pt hb.pw).imp fun σ H Q t => t.ok fun φ h ρ x p => x.first (ha.g ρ h) p fun v H1 φ1 w1 h1 g1 x1 p1 => by
    have e : w1 = v := g1.r
    subst e
    split
    · rename_i e
      rw [if_pos e] at p1
      exact p1 φ1 _ H1 (Ext.refl _ _) (Keep.refl _) g1.C rfl
    · rename_i e
      rw [if_neg e] at p1
      exact ⟨φ1, h1, ρ, x1, p1⟩,
   fun ρ h => (ha.g ρ h).bind fun c h1 _ l1 => by
    split
    · exact l1
    · exact (hb.g ρ h1).le l1⟩
theorem rt_not (ha : RT X cls W a ta) : RT X cls W (.UnaryOp .Not a pos) (PF.tNot ta) :=
  ⟨(pt_not ha.pt).imp fun σ H Q t => t.ok fun φ h ρ x p => x.first (ha.g ρ h) p fun v H1 φ1 w1 h1 g1 x1 p1 => by
    have e : w1 = v := g1.r
    subst e
    exact p1 φ1 _ H1 (Ext.refl _ _) (Keep.refl _) g1.C rfl,
   fun ρ h => (ha.g ρ h).bind fun c h1 _ l1 => l1⟩
theorem re_if {c : Expr} {t : T} (hc : RT X cls W c t) (ha : RE X cls W a da) (hb : RE X cls W b db) : RE X cls W (.IfExp c a b pos) (dIf t da db) :=
  ⟨(pe_ifExp hc.pt ha.pe hb.pe).imp fun σ H Q t => t.ok fun φ h ρ x p => x.first (hc.g ρ h) p fun v H1 φ1 w1 h1 g1 x1 p1 => by
    have e : w1 = v := g1.r
    subst e
    split
    · rename_i e
      rw [if_pos e] at p1
      exact ⟨φ1, h1, ρ, x1, p1⟩
    · rename_i e
      rw [if_neg e] at p1
      exact ⟨φ1, h1, ρ, x1, p1⟩,
   fun ρ h => (hc.g ρ h).bind fun c h1 _ l1 => by
    split
    · exact (ha.g ρ h1).le l1
    · exact (hb.g ρ h1).le l1⟩
theorem grow_chain {o o' : PF.W → PF.W → Hs → Res PF.W} (go : GrO o) (go' : GrO o') (ga : Grow da) (gb : Grow db) (gc : Grow dc) : Grow (dChain o o' da db dc) := fun ρ h => (ga ρ h).bind fun x h1 _ l1 => ((gb ρ h1).le l1).bind fun y h2 _ l2 => ((go x y h2).le l2).bind fun z h3 _ l3 => by
  split
  · exact ((gc ρ h3).le l3).bind fun u h4 _ l4 => (go' y u h4).le l4
  · exact l3
  · trivial
theorem chain_imp {o o' : PF.W → PF.W → Hs → Res PF.W} (go : GrO o) (go' : GrO o') (ga : Grow da) (gb : Grow db) (gc : Grow dc) {σ : L2.St} {H : Hp} {Q : VK} (t : tG X.K cls (rW X.K) W (dChain o o' da db dc) σ H Q) :
    tChain (rO X.K cls o) (rO X.K cls o') (tG X.K cls (rW X.K) W da) (tG X.K cls (rW X.K) W db) (tG X.K cls (rW X.K) W dc) σ H Q := by
  refine t.ok fun φ h ρ x p => x.first (ga ρ h) p fun v H1 φ1 w1 h1 g1 x1 p1 => x1.first (gb ρ h1) p1 fun u H2 φ2 w2 h2 g2 x2 p2 => ?_
  refine ⟨φ2, h2, w1, w2, _, g2.C, VR.mono g2.e g2.l g2.k g1.r, g2.r, (p2.bind (R := rW X.K) (go w1 w2 h2)).mono ?_⟩
  rintro z H3 ⟨φ3, w3, h3, g3, p3⟩
  have r3 := g3.r
  have x3 : At X.K cls φ3 h3 ρ σ H3 := x2.go g3
  split at p3
  · cases r3
    refine ⟨true, rfl, ?_⟩
    rw [if_pos rfl]
    exact x3.first (gc ρ h3) p3 fun v' H4 φ4 w4 h4 g4 x4 p4 => ⟨φ4, h4, w2, w4, _, g4.C, VR.mono g4.e g4.l g4.k (VR.mono g3.e g3.l g3.k g2.r), g4.r, p4⟩
  · cases r3
    refine ⟨false, rfl, ?_⟩
    rw [if_neg Bool.false_ne_true]
    exact p3 φ3 _ H3 (Ext.refl _ _) (Keep.refl _) g3.C (.bl false)
  · exact p3.elim
/-- a op b op' c -/
theorem re_chain {op op' : CmpOp} {o o' : PF.W → PF.W → Hs → Res PF.W} (ho : OpR X (compareOp op) (rO X.K cls o)) (go : GrO o) (ho' : OpR X (compareOp op') (rO X.K cls o')) (go' : GrO o') (ha : RE X cls W a da) (hb : RE X cls W b db) (hc : RE X cls W c dc)
    (hm : lastMarks [op, op'] [b, c] = false := by with_unfolding_all rfl) : RE X cls W (.Compare a [op, op'] [b, c] pos) (dChain o o' da db dc) := by
  have hg : Grow (dChain o o' da db dc) := grow_chain go go' ha.g hb.g hc.g
  exact ⟨(pe_chain ho ho' ha.pe hb.pe hc.pe hm).imp fun σ H Q t => chain_imp go go' ha.g hb.g hc.g t, hg⟩
/-! ### argument lists, displays -/
theorem ra_nil : RA X cls W [] aNil := ⟨pa_nil.imp fun σ H Q t => t.ok fun φ h ρ x p => p φ _ H (Ext.refl _ _) (Keep.refl _) x.C .nil, fun _ _ => Nat.le_refl _⟩
theorem ra_cons {e : Expr} {es : List Expr} {d : D} {as : As} (ha : RE X cls W e d) (hr : RA X cls W es as) (hs : starEach (e :: es) X.env = (false, eval e X.env) :: starEach es X.env := by rfl) : RA X cls W (e :: es) (aCons d as) :=
  ⟨(pa_cons ha.pe hr.pa hs).imp fun σ H Q t => t.ok fun φ h ρ x p => x.first (ha.g ρ h) p fun v H1 φ1 w1 h1 g1 x1 p1 => x1.first (hr.g ρ h1) p1 fun vs H2 φ2 ws h2 g2 x2 p2 =>
    p2 φ2 _ H2 (Ext.refl _ _) (Keep.refl _) g2.C (.cons (VR.mono g2.e g2.l g2.k g1.r) g2.r),
   fun ρ h => (ha.g ρ h).bind fun x h1 _ l1 => ((hr.g ρ h1).le l1).bind fun y h2 _ l2 => l2⟩
theorem bigL_eq : bigL = sizeLine := by rw [sizeLine_eq]; rfl
/-- a new tuple at hand -/
theorem post_tup {K : PySem.W.Frag} {φ : Phi} {h : Hs} {H : Hp} {E : XK} {Q : VK} {ws : List PF.W} {vs : List V} (C : Cells K cls φ h H) (r : VRs K φ h.length H ws vs) (p : Post K cls (rW K) φ h.length H E Q (.ok (.tup ws) h)) :
    ∀ q, H q = none → Q (.ref q) (upd H q (.tup vs)) := fun q hq =>
  p φ _ _ (Ext.refl _ _) (keep_new hq) (C.other hq) (.tup (.inl (.inl upd_same)) (r.mono (Ext.refl _ _) (Nat.le_refl _) (keep_new hq)))
/-- a new list -/
theorem post_lst {K : PySem.W.Frag} {φ : Phi} {h : Hs} {H : Hp} {E : XK} {Q : VK} {ws : List PF.W} {vs : List V} (C : Cells K cls φ h H) (r : VRs K φ h.length H ws vs) (p : Post K cls (rW K) φ h.length H E Q (newL ws h)) :
    ∀ q, H q = none → Q (.ref q) (upd H q (.lst vs)) := fun q hq => by
  have q1 := p (put φ h.length q) (.ref q) _ (put_ext _ _ _) (keep_new hq) (C.new hq ⟨vs, upd_same, r.mono (put_ext _ _ _) (Nat.le_succ _) (keep_new hq)⟩)
  refine q1 ?_
  have e : V.ref q = .ref (put φ h.length q h.length) := by rw [put_at]
  rw [e]
  exact .ref (by rw [List.length_append, List.length_singleton]; exact Nat.lt_succ_self _)
theorem newL_grows (ws : List PF.W) (h : Hs) : grows h.length (newL ws h) := by
  show h.length ≤ (h ++ [Cell.lst ws]).length
  rw [List.length_append]
  exact Nat.le_add_right _ _
theorem re_tup {es : List Expr} {as : As} {j : Tok} (ha : RA X cls W es as) : RE X cls W (.Tuple es j pos) (dTup as) :=
  ⟨(pe_tup ha.pa).imp fun σ H Q t => t.ok fun φ h ρ x p => x.first (ha.g ρ h) p fun vs H1 φ1 ws h1 g1 x1 p1 => by
    have hr : VRs X.K φ1 h1.length H1 ws vs := g1.r
    split at p1
    · rename_i hl
      exact ⟨by rw [← hr.length, ← bigL_eq]; exact hl, post_tup g1.C hr p1⟩
    · exact p1.elim,
   fun ρ h => (ha.g ρ h).bind fun x h1 _ l1 => by
    split
    · exact l1
    · trivial⟩
theorem re_lst {es : List Expr} {as : As} (ha : RA X cls W es as) : RE X cls W (.List es pos) (dLst as) :=
  ⟨(pe_lst ha.pa).imp fun σ H Q t => t.ok fun φ h ρ x p => x.first (ha.g ρ h) p fun vs H1 φ1 ws h1 g1 x1 p1 => by
    have hr : VRs X.K φ1 h1.length H1 ws vs := g1.r
    split at p1
    · rename_i hl
      exact ⟨by rw [← hr.length, ← bigL_eq]; exact hl, post_lst g1.C hr p1⟩
    · exact p1.elim,
   fun ρ h => (ha.g ρ h).bind fun x h1 _ l1 => by
    split
    · exact (newL_grows _ _).le l1
    · trivial⟩
/-! ### unary operators, calls of built-ins, methods, subscripts, by values -/
def rU1 (K : PySem.W.Frag) (cls : Cl) (o : PF.W → Hs → Res PF.W) : V → Hp → VK → Prop := fun x H Q => ∃ φ h w E, Cells K cls φ h H ∧ VR K φ h.length H w x ∧ Post K cls (rW K) φ h.length H E Q (o w h)
def GrU (o : PF.W → Hs → Res PF.W) : Prop := ∀ w h, grows h.length (o w h)
theorem grow_un {o : PF.W → Hs → Res PF.W} (go : GrU o) (ga : Grow da) : Grow (dUn o da) := fun ρ h => (ga ρ h).bind fun x h1 _ l1 => (go x h1).le l1
theorem re_un {op : UnaryOp} {o : PF.W → Hs → Res PF.W} (ho : UnR X (unaryOp op) (rU1 X.K cls o)) (go : GrU o) (ha : RE X cls W a da) : RE X cls W (.UnaryOp op a pos) (dUn o da) :=
  ⟨(pe_un ho ha.pe).imp fun σ H Q t => t.ok fun φ h ρ x p => x.first (ha.g ρ h) p fun v H1 φ1 w1 h1 g1 x1 p1 => ⟨φ1, h1, w1, _, g1.C, g1.r, p1⟩, grow_un go ha.g⟩
/-- a built-in of a list of arguments -/
def rC (K : PySem.W.Frag) (cls : Cl) (o : Fn) : List V → Hp → VK → Prop := fun xs H Q => ∃ φ h ws E, Cells K cls φ h H ∧ VRs K φ h.length H ws xs ∧ Post K cls (rW K) φ h.length H E Q (o ws h)
def GrC (o : Fn) : Prop := ∀ ws h, grows h.length (o ws h)
theorem grow_call {f : Fn} {as : As} (gf : GrC f) (ga : Grow as) : Grow (dCall f as) := fun ρ h => (ga ρ h).bind fun xs h1 _ l1 => (gf xs h1).le l1
theorem tG.call {f : Fn} {as : As} (ga : Grow as) {σ : L2.St} {H : Hp} {Q : VK} (t : tG X.K cls (rW X.K) W (dCall f as) σ H Q) : tG X.K cls (rWs X.K) W as σ H (fun vs H1 => rC X.K cls f vs H1 Q) :=
  t.ok fun φ h ρ x p => x.first (ga ρ h) p fun vs H1 φ1 ws h1 g1 x1 p1 => ⟨φ1, h1, ws, _, g1.C, g1.r, p1⟩
end
end PF
namespace PF
open PySem PySem.Spec PyProof.Rows L2
/-! ### statements -/
structure Gs (K : PySem.W.Frag) (cls : Cl) (φ : Phi) (n : Nat) (H0 : Hp) (φ1 : Phi) (h1 : Hs) (H1 : Hp) : Prop where
  e : Ext φ φ1 n
  l : n ≤ h1.length
  k : Keep H0 H1
  C : Cells K cls φ1 h1 H1
def PostS (K : PySem.W.Frag) (cls : Cl) (φ : Phi) (n : Nat) (H0 : Hp) (W : WX) (D : Ends) : Out → Prop
  | .nx ρ h' => ∀ φ' σ' H', Ext φ φ' n → Keep H0 H' → At K cls φ' h' ρ σ' H' → D.nx σ' H'
  | .bk ρ h' => ∀ φ' σ' H', Ext φ φ' n → Keep H0 H' → At K cls φ' h' ρ σ' H' → D.bk σ' H'
  | .ct ρ h' => ∀ φ' σ' H', Ext φ φ' n → Keep H0 H' → At K cls φ' h' ρ σ' H' → D.ct σ' H'
  | .ret w h' => ∀ φ' v H', Ext φ φ' n → Keep H0 H' → Cells K cls φ' h' H' → VR K φ' h'.length H' w v → D.rt v H'
  | .exc c p ρ h' => ∀ φ' d σ' H', Ext φ φ' n → Keep H0 H' → At K cls φ' h' ρ σ' H' → PR K φ' h'.length H' p d → W (.ref (cls c)) d σ' H'
  | .stuck => False
def growsS (n : Nat) : Out → Prop
  | .nx _ h' => n ≤ h'.length
  | .bk _ h' => n ≤ h'.length
  | .ct _ h' => n ≤ h'.length
  | .ret _ h' => n ≤ h'.length
  | .exc _ _ _ h' => n ≤ h'.length
  | .stuck => True
theorem growsS.le {n n1 : Nat} {r : Out} (g : growsS n1 r) (l : n ≤ n1) : growsS n r := by
  cases r with
  | stuck => trivial
  | _ => exact Nat.le_trans l g
def GrowS (b : Sm) : Prop := ∀ ρ h, growsS h.length (b ρ h)
def tS (K : PySem.W.Frag) (cls : Cl) (W : WX) (b : Sm) : TS := fun D σ H => ∃ φ h ρ, At K cls φ h ρ σ H ∧ PostS K cls φ h.length H W D (b ρ h)
structure RS (X : Cx) (cls : Cl) (W : WX) (st : Stmt) (b : Sm) : Prop where
  ps : PS X st (tS X.K cls W b)
  g : GrowS b
structure RSs (X : Cx) (cls : Cl) (W : WX) (st : List Stmt) (b : Sm) : Prop where
  ps : PSs X st (tS X.K cls W b)
  g : GrowS b
section
variable {K : PySem.W.Frag} {cls : Cl} {φ φ1 : Phi} {n n1 : Nat} {H0 H1 : Hp} {W : WX} {D : Ends}
theorem PostS.later {r : Out} (p : PostS K cls φ n H0 W D r) (e1 : Ext φ φ1 n) (l : n ≤ n1) (k1 : Keep H0 H1) : PostS K cls φ1 n1 H1 W D r := by
  cases r with
  | nx ρ h => exact fun φ' σ' H' e k x => p φ' σ' H' (e1.trans e l) (k1.trans k) x
  | bk ρ h => exact fun φ' σ' H' e k x => p φ' σ' H' (e1.trans e l) (k1.trans k) x
  | ct ρ h => exact fun φ' σ' H' e k x => p φ' σ' H' (e1.trans e l) (k1.trans k) x
  | ret w h => exact fun φ' v H' e k C r => p φ' v H' (e1.trans e l) (k1.trans k) C r
  | exc c y ρ h => exact fun φ' d σ' H' e k x r => p φ' d σ' H' (e1.trans e l) (k1.trans k) x r
  | stuck => exact p
theorem tS.ok {b : Sm} {σ : L2.St} {H : Hp} {P : Prop} (t : tS K cls W b D σ H) (q : ∀ φ h ρ, At K cls φ h ρ σ H → PostS K cls φ h.length H W D (b ρ h) → P) : P :=
  let ⟨φ, h, ρ, x, p⟩ := t
  q φ h ρ x p
/-- an expression first, then the rest -/
theorem At.firstS {α β : Type} {R : Rl α β} {h : Hs} {ρ : Env} {σ : L2.St} {H : Hp} {d : Env → Hs → Res α} {f : α → Hs → Out} (x : At K cls φ h ρ σ H) (g : grows h.length (d ρ h))
    (p : PostS K cls φ h.length H W D (onR (d ρ h) ρ f)) {Q1 : β → Hp → Prop}
    (q : ∀ b H1 φ1 a h1, Go K cls R φ h.length H φ1 a h1 b H1 → At K cls φ1 h1 ρ σ H1 → PostS K cls φ1 h1.length H1 W D (f a h1) → Q1 b H1) : tG K cls R W d σ H Q1 := by
  refine ⟨φ, h, ρ, x, ?_⟩
  revert p g
  cases d ρ h with
  | ok a h1 => exact fun g p φ' b H' e k C r => q b H' φ' a h1 ⟨e, g, k, C, r⟩ ⟨C, x.S.mono e g k⟩ (p.later e g k)
  | exc c y h1 => exact fun g p φ' d H' e k C r => p φ' d σ H' e k ⟨C, x.S.mono e g k⟩ r
  | stuck => exact fun _ p => p.elim
theorem growsS.onR {α : Type} {r : Res α} {ρ : Env} {f : α → Hs → Out} (g : grows n r) (q : ∀ a h, r = .ok a h → n ≤ h.length → growsS n (f a h)) : growsS n (PF.onR r ρ f) := by
  cases r with
  | ok a h => exact q a h rfl g
  | exc c p h => exact g
  | stuck => trivial
end
section
variable {X : Cx} {cls : Cl} {W : WX} {st : Stmt} {rest : List Stmt} {a b : Sm} {e : Expr} {d : PF.D} {pos : Pos}
theorem rss_nil : RSs X cls W [] sNx := ⟨pss_nil.imp fun D σ H t => t.ok fun φ h ρ x p => p φ σ H (Ext.refl _ _) (Keep.refl _) x, fun _ _ => Nat.le_refl _⟩
theorem rss_one (h : RS X cls W st a) : RSs X cls W [st] a := ⟨pss_one h.ps, h.g⟩
theorem rss_cons (h1 : RS X cls W st a) (h2 : RSs X cls W rest b) : RSs X cls W (st :: rest) (sSeq a b) := by
  refine ⟨(pss_cons h1.ps h2.ps).imp fun D σ H t => t.ok fun φ h ρ x p => ⟨φ, h, ρ, x, ?_⟩, fun ρ h => ?_⟩
  · have g1 := h1.g ρ h
    unfold sSeq at p
    revert p g1
    cases a ρ h with
    | nx ρ1 h1 => exact fun p g1 φ' σ' H' e k x' => ⟨φ', h1, ρ1, x', p.later e g1 k⟩
    | _ => exact fun p _ => p
  · have g1 := h1.g ρ h
    unfold sSeq
    revert g1
    cases a ρ h with
    | nx ρ1 h1 => exact fun g1 => (h2.g ρ1 h1).le g1
    | _ => exact fun g => g
theorem rs_exp (he : RE X cls W e d) (hs : swapsWith e none pos.line X.env = pure false := by rfl) : RS X cls W (.Expr e pos) (sExp d) :=
  ⟨(ps_expr he.pe hs).imp fun D σ H t => t.ok fun φ h ρ x p => x.firstS (he.g ρ h) p fun v H1 φ1 w1 h1 g1 x1 p1 => p1 φ1 σ H1 (Ext.refl _ _) (Keep.refl _) x1,
   fun ρ h => growsS.onR (he.g ρ h) fun w h1 _ l => l⟩
theorem rs_ret (he : RE X cls W e d) : RS X cls W (.Return (some e) pos) (sRet d) :=
  ⟨(ps_ret he.pe).imp fun D σ H t => t.ok fun φ h ρ x p => x.firstS (he.g ρ h) p fun v H1 φ1 w1 h1 g1 x1 p1 => p1 φ1 v H1 (Ext.refl _ _) (Keep.refl _) g1.C g1.r,
   fun ρ h => growsS.onR (he.g ρ h) fun w h1 _ l => l⟩
theorem rs_retN : RS X cls W (.Return none pos) sRetN := ⟨ps_retN.imp fun D σ H t => t.ok fun φ h ρ x p => p φ .non H (Ext.refl _ _) (Keep.refl _) x.C .non, fun _ _ => Nat.le_refl _⟩
theorem rs_pass : RS X cls W (.Pass pos) sNx := ⟨ps_pass.imp fun D σ H t => t.ok fun φ h ρ x p => p φ σ H (Ext.refl _ _) (Keep.refl _) x, fun _ _ => Nat.le_refl _⟩
theorem rs_brk : RS X cls W (.Break pos) sBrk := ⟨ps_break.imp fun D σ H t => t.ok fun φ h ρ x p => p φ σ H (Ext.refl _ _) (Keep.refl _) x, fun _ _ => Nat.le_refl _⟩
theorem rs_cnt : RS X cls W (.Continue pos) sCnt := ⟨ps_continue.imp fun D σ H t => t.ok fun φ h ρ x p => p φ σ H (Ext.refl _ _) (Keep.refl _) x, fun _ _ => Nat.le_refl _⟩
theorem rs_if {c : Expr} {sa sb : List Stmt} {t : T} (hc : RT X cls W c t) (ha : RSs X cls W sa a) (hb : RSs X cls W sb b) : RS X cls W (.If c sa sb pos) (sIf t a b) :=
  ⟨(ps_if hc.pt ha.ps hb.ps).imp fun D σ H t => t.ok fun φ h ρ x p => x.firstS (hc.g ρ h) p fun v H1 φ1 w1 h1 g1 x1 p1 => by
    have e : w1 = v := g1.r
    subst e
    split
    · rename_i e
      rw [if_pos e] at p1
      exact ⟨φ1, h1, ρ, x1, p1⟩
    · rename_i e
      rw [if_neg e] at p1
      exact ⟨φ1, h1, ρ, x1, p1⟩,
   fun ρ h => growsS.onR (hc.g ρ h) fun c h1 _ l => by
    split
    · exact (ha.g ρ h1).le l
    · exact (hb.g ρ h1).le l⟩
/-! ### targets -/
def tT (K : PySem.W.Frag) (g : Tg) : TG := fun v σ H Q => ∃ φ n w ρ, VR K φ n H w v ∧ Slots K φ n H ρ σ ∧ ∃ ρ1, g.run w ρ = some ρ1 ∧ ∀ σ1, Slots K φ n H ρ1 σ1 → (∀ j, j ∉ g.ids → σ1[j]? = σ[j]?) → Q σ1 H
def tTs (K : PySem.W.Frag) (gs : List Tg) : TGs := fun vs σ H Q => ∃ φ n ws ρ, VRs K φ n H ws vs ∧ Slots K φ n H ρ σ ∧ ∃ ρ1, Tg.runs gs ws ρ = some ρ1 ∧ ∀ σ1, Slots K φ n H ρ1 σ1 → (∀ j, j ∉ Tg.idss gs → σ1[j]? = σ[j]?) → Q σ1 H
theorem _root_.L2.PG.imp {X : Cx} {e : Expr} {t t' : TG} (h : PG X e t) (i : ∀ v σ H Q, t' v σ H Q → t v σ H Q) : PG X e t' := ⟨fun pins s σ H v u Q I r q => h.run pins s σ H v u Q I r (i _ _ _ _ q)⟩
theorem _root_.L2.PGs.imp {X : Cx} {e : List Expr} {t t' : TGs} (h : PGs X e t) (i : ∀ v σ H Q, t' v σ H Q → t v σ H Q) : PGs X e t' := ⟨fun pins s σ H v u Q I r q => h.run pins s σ H v u Q I r (i _ _ _ _ q)⟩
theorem rg_n (i : Nat) {x : PySem.Str} (hN : X.N.Nodup) (hi : X.N[i]? = some x) (hx : Loc X.env.scope x) (hf : X.fn x = true ∨ X.env.scope.names.lookup x = some .local := by first | exact .inl rfl | exact .inr rfl | assumption) : PG X (.Name x pos) (tT X.K (.n i)) :=
  (pg_name hN hi hx hf).imp fun v σ H Q ⟨φ, n, w, ρ, r, s, ρ1, e, q⟩ => by
    rw [Tg.run] at e
    split at e
    · cases e
      exact q _ (s.set r) fun j hj => by
        rw [List.getElem?_set_ne]
        intro z
        exact hj (by rw [Tg.ids, z]; exact List.mem_singleton.mpr rfl)
    · cases e
theorem rgs_nil : PGs X [] (tTs X.K []) := pgs_nil.imp fun vs σ H Q ⟨φ, n, ws, ρ, r, s, ρ1, e, q⟩ => by
  cases r with
  | nil =>
    rw [Tg.runs] at e
    cases e
    exact ⟨rfl, q _ s fun _ _ => rfl⟩
  | cons _ _ => rw [Tg.runs] at e <;> first | cases e | (intros; simp_all)
theorem rgs_cons {e : Expr} {es : List Expr} {g : Tg} {gs : List Tg} (h1 : PG X e (tT X.K g)) (h2 : PGs X es (tTs X.K gs))
    (hs : (assignEach (e :: es) X.env).map (·.2) = assign e X.env :: (assignEach es X.env).map (·.2) := by rfl) : PGs X (e :: es) (tTs X.K (g :: gs)) :=
  (pgs_cons h1 h2 hs).imp fun vs σ H Q ⟨φ, n, ws, ρ, r, s, ρ1, e, q⟩ => by
    cases r with
    | nil => rw [Tg.runs] at e <;> first | cases e | (intros; simp_all)
    | @cons w v ws vs r0 rr =>
      rw [Tg.runs] at e
      cases e1 : g.run w ρ with
      | none => rw [e1] at e; cases e
      | some ρ2 =>
        rw [e1] at e
        refine ⟨v, vs, rfl, φ, n, w, ρ, r0, s, ρ2, e1, fun σ1 s1 f1 => ⟨φ, n, ws, ρ2, rr, s1, ρ1, e, fun σ2 s2 f2 => q σ2 s2 fun j hj => ?_⟩⟩
        rw [Tg.idss, List.mem_append, not_or] at hj
        rw [f2 j hj.2, f1 j hj.1]
theorem Tg.runs_len : ∀ (gs : List Tg) (ws : List PF.W) (ρ ρ1 : Env), Tg.runs gs ws ρ = some ρ1 → ws.length = gs.length
  | [], [], _, _, _ => rfl
  | [], _ :: _, _, _, e => by simp [Tg.runs] at e
  | _ :: _, [], _, _, e => by simp [Tg.runs] at e
  | g :: gs, w :: ws, ρ, ρ1, e => by
    rw [Tg.runs] at e
    cases e1 : g.run w ρ with
    | none => rw [e1] at e; cases e
    | some ρ2 =>
      rw [e1] at e
      rw [List.length_cons, List.length_cons, Tg.runs_len gs ws ρ2 ρ1 e]
theorem rg_t {es : List Expr} {k : Nat} {gs : List Tg} (hc : X.calm = true) (h : PGs X es (tTs X.K gs))
    (hn : (assignEach es X.env).length = gs.length := by rfl) (hst : (assignEach es X.env).findIdx? (·.1) = none := by rfl) : PG X (.Tuple es k pos) (tT X.K (.t gs)) :=
  (pg_tup (n := gs.length) hc h hn hst).imp fun v σ H Q ⟨φ, n, w, ρ, r, s, ρ1, e, q⟩ => by
    cases r with
    | @tup p vs ws hq rr =>
      rw [Tg.run] at e
      refine ⟨p, vs, rfl, hq, ?_, φ, n, ws, ρ, rr, s, ρ1, e, fun σ1 s1 f1 => q σ1 s1 fun j hj => f1 j (by rw [Tg.ids] at hj; exact hj)⟩
      rw [← rr.length]
      exact Tg.runs_len _ _ _ _ e
    | _ => rw [Tg.run] at e <;> first | cases e | (intros; simp_all)
theorem grow_asg {g : Tg} (hd : Grow d) : GrowS (sAsg d g) := fun ρ h => growsS.onR (hd ρ h) fun w h1 _ l => by
  unfold onO
  split
  · exact l
  · trivial
theorem asg_imp {g : Tg} {tg : TG} (hd : Grow d) (hg : ∀ v σ H Q, tT X.K g v σ H Q → tg v σ H Q) {D : Ends} {σ : L2.St} {H : Hp} (t : tS X.K cls W (sAsg d g) D σ H) : tAsg (tG X.K cls (rW X.K) W d) tg D σ H :=
  t.ok fun φ h ρ x p => x.firstS (hd ρ h) p fun v H1 φ1 w1 h1 g1 x1 p1 => by
    unfold onO at p1
    split at p1
    · rename_i ρ1 e
      exact hg _ _ _ _ ⟨φ1, h1.length, w1, ρ, g1.r, x1.S, ρ1, e, fun σ1 s1 _ => p1 φ1 σ1 H1 (Ext.refl _ _) (Keep.refl _) ⟨g1.C, s1⟩⟩
    · exact p1.elim
theorem rs_asg {tg : Expr} {g : Tg} (he : RE X cls W e d) (hg : PG X tg (tT X.K g)) (hs : swapsWithSole [tg] e pos.line X.env = pure false := by rfl) (hw : swappedStores [tg] e X.env = pure none := by rfl)
    (h1 : (assignEach [tg] X.env).map (·.2) = [assign tg X.env] := by rfl) : RS X cls W (.Assign [tg] e pos) (sAsg d g) :=
  ⟨(ps_asg he.pe hg hs hw h1).imp fun D σ H t => asg_imp he.g (fun _ _ _ _ q => q) t, grow_asg he.g⟩
theorem gname_imp {i : Nat} : ∀ v σ H Q, tT X.K (.n i) v σ H Q → gName i v σ H Q := fun v σ H Q ⟨φ, n, w, ρ, r, s, ρ1, e, q⟩ => by
  rw [Tg.run] at e
  split at e
  · cases e
    exact q _ (s.set r) fun j hj => by
      rw [List.getElem?_set_ne]
      intro z
      exact hj (by rw [Tg.ids, z]; exact List.mem_singleton.mpr rfl)
  · cases e
theorem rs_set (i : Nat) {x : PySem.Str} {pos' : Pos} (hN : X.N.Nodup) (hi : X.N[i]? = some x) (hx : Loc X.env.scope x) (he : RE X cls W e d) (hs : swapsWith e (some (.Name x pos')) pos.line X.env = pure false := by rfl) (hf : X.fn x = true ∨ X.env.scope.names.lookup x = some .local := by first | exact .inl rfl | exact .inr rfl | assumption) :
    RS X cls W (.Assign [.Name x pos'] e pos) (sAsg d (.n i)) :=
  ⟨(ps_set hN hi hx he.pe hs hf).imp fun D σ H t => asg_imp he.g gname_imp t, grow_asg he.g⟩
/-! ### while -/
theorem grow_while {t : T} {b : Sm} (gt : Grow t) (gb : GrowS b) : ∀ n, GrowS (whileF t b n)
  | 0 => fun _ _ => trivial
  | n + 1 => fun ρ h => growsS.onR (gt ρ h) fun c h1 _ l => by
    split
    · have g1 := (gb ρ h1).le l
      revert g1
      cases b ρ h1 with
      | nx ρ2 h2 => exact fun g1 => (grow_while gt gb n ρ2 h2).le g1
      | ct ρ2 h2 => exact fun g1 => (grow_while gt gb n ρ2 h2).le g1
      | _ => exact fun g1 => g1
    · exact l
theorem rs_while {c : Expr} {body : List Stmt} {t : T} (hp : PassesOwn (model X.prog X.w) X.A X.env X.xe) (hc : RT X cls W c t) (hb : RSs X cls W body b) : RS X cls W (.While c body [] pos) (sWhile t b) := by
  refine ⟨(ps_while hp hc.pt hb.ps).imp fun D σ H t0 => t0.ok fun φ h ρ x p => ?_, grow_while hc.g hb.g _⟩
  refine ⟨fun m σ' H' => ∃ φ' h' ρ', At X.K cls φ' h' ρ' σ' H' ∧ PostS X.K cls φ' h'.length H' W D (whileF t b m ρ' h'), ⟨FUEL, φ, h, ρ, x, p⟩, ?_⟩
  rintro m σ1 H1 ⟨φ1, h1, ρ1, x1, p1⟩
  cases m with
  | zero => exact p1.elim
  | succ m =>
    refine x1.firstS (hc.g ρ1 h1) p1 fun v H2 φ2 w2 h2 g2 x2 p2 => ?_
    have e : w2 = v := g2.r
    subst e
    split
    · rename_i e
      rw [if_pos e] at p2
      refine ⟨fun σ' H' => ∃ φ' h' ρ', At X.K cls φ' h' ρ' σ' H' ∧ PostS X.K cls φ' h'.length H' W D (whileF t b m ρ' h'), fun σ' H' q => ⟨m, Nat.lt_succ_self m, q⟩, φ2, h2, ρ1, x2, ?_⟩
      have g3 := hb.g ρ1 h2
      revert g3 p2
      cases b ρ1 h2 with
      | nx ρ3 h3 => exact fun p2 g3 φ' σ' H' e k x' => ⟨φ', h3, ρ3, x', p2.later e g3 k⟩
      | ct ρ3 h3 => exact fun p2 g3 φ' σ' H' e k x' => ⟨φ', h3, ρ3, x', p2.later e g3 k⟩
      | bk ρ3 h3 => exact fun p2 g3 => p2
      | ret w3 h3 => exact fun p2 g3 => p2
      | exc c3 y3 ρ3 h3 => exact fun p2 g3 => p2
      | stuck => exact fun p2 g3 => p2
    · rename_i e
      rw [if_neg e] at p2
      exact p2 φ2 σ1 H2 (Ext.refl _ _) (Keep.refl _) x2
end
end PF
namespace PF
open PySem PySem.Spec PyProof.Rows L2
/-! ### what is walked -/
def Serves (K : PySem.W.Frag) (cls : Cl) : Rl It L2.It := fun φ0 n0 H0 J I => ∀ (φ : Phi) (h : Hs) (H : Hp), Ext φ0 φ n0 → n0 ≤ h.length → Keep H0 H → Cells K cls φ h H → stays J.2 h = true →
  I.stop J.1.length H ∧ ∀ (i : Nat) (w : PF.W), J.1[i]? = some w → I.go i H ∧ ∀ x H', I.yld i H x H' → Keep H H' ∧ Cells K cls φ h H' ∧ VR K φ h.length H' w x
def tI (K : PySem.W.Frag) (cls : Cl) (W : WX) (it : PF.I) : TI := fun σ H R => ∃ φ h ρ, At K cls φ h ρ σ H ∧ Post K cls (Serves K cls) φ h.length H (fun c d H' => W c d σ H') R (it ρ h)
structure RI (X : Cx) (cls : Cl) (W : WX) (tg e : Expr) (it : PF.I) : Prop where
  pi : PI X tg e (tI X.K cls W it)
  g : Grow it
theorem _root_.L2.PI.imp {X : Cx} {tg e : Expr} {t t' : TI} (h : PI X tg e t) (i : ∀ σ H Q, t' σ H Q → t σ H Q) : PI X tg e t' := ⟨fun pins s σ H Q I q => h.run pins s σ H Q I (i _ _ _ q)⟩
section
variable {K : PySem.W.Frag} {cls : Cl} {φ : Phi} {h : Hs} {H : Hp} {w : PF.W} {v : V} {ws : List PF.W}
theorem lstOf_at (C : Cells K cls φ h H) (r : VR K φ h.length H w v) (e : lstOf w h = some ws) : ∃ a vs, v = .ref a ∧ SqL K H a vs ∧ VRs K φ h.length H ws vs := by
  cases r with
  | @ref i hi =>
    unfold lstOf at e
    dsimp only at e
    split at e
    · rename_i ws' e1
      cases e
      obtain ⟨vs, h1, h2⟩ := C.cell i _ e1
      exact ⟨_, vs, rfl, .of h1, h2⟩
    · cases e
  | fl q rr => cases e; exact ⟨_, _, rfl, q.l, rr⟩
  | _ => cases e
theorem stays_cons {p : PF.W × List PF.W} {g : List (PF.W × List PF.W)} (e : stays (p :: g) h = true) : lstOf p.1 h = some p.2 ∧ stays g h = true := by
  unfold stays at e
  rw [List.all_cons, Bool.and_eq_true] at e
  exact ⟨of_decide_eq_true e.1, e.2⟩
end
section
variable {X : Cx} {cls : Cl} {W : WX} {e e2 tg : Expr} {d d2 : PF.D} {p pos tpos : Pos}
theorem grow_lstOf {α : Type} {d : PF.D} {f : PF.W → List PF.W → Hs → Res α} (gd : Grow d) (gf : ∀ w ws h, grows h.length (f w ws h)) : Grow (fun ρ h => (d ρ h).bind fun w h1 => match lstOf w h1 with
  | some ws => f w ws h1
  | none => .stuck) := fun ρ h => (gd ρ h).bind fun w h1 _ l => by
  split
  · exact (gf _ _ _).le l
  · trivial
theorem ri_lst (he : RE X cls W e d) : RI X cls W tg e (iLst d) := by
  refine ⟨(pi_list he.pe).imp fun σ H R t => ?_, grow_lstOf he.g fun _ _ _ => Nat.le_refl _⟩
  obtain ⟨φ, h, ρ, x, p⟩ := t
  refine x.first (he.g ρ h) p fun v H1 φ1 w1 h1 g1 x1 p1 => ?_
  have r1 : VR X.K φ1 h1.length H1 w1 v := g1.r
  split at p1
  · rename_i ws e1
    obtain ⟨a, vs, rfl, hs, hr⟩ := lstOf_at g1.C r1 e1
    refine ⟨a, rfl, ⟨vs, hs⟩, p1 φ1 _ H1 (Ext.refl _ _) (Keep.refl _) g1.C ?_⟩
    intro φ2 h2 H2 e2 l2 k2 C2 st
    obtain ⟨st1, _⟩ := stays_cons st
    obtain ⟨b, us, eb, hs2, hr2⟩ := lstOf_at C2 (r1.mono e2 l2 k2) st1
    cases eb
    refine ⟨⟨us, hs2, by rw [← hr2.length]; exact Nat.le_refl _⟩, fun i w hw => ?_⟩
    obtain ⟨u, hu, ru⟩ := hr2.get hw
    refine ⟨⟨us, u, hs2, hu⟩, fun y H3 hy => ?_⟩
    obtain ⟨rfl, fy⟩ := hy
    have ey := fy us hs2
    rw [hu] at ey
    cases ey
    exact ⟨Keep.refl _, C2, ru⟩
  · exact p1.elim
theorem ri_tup (he : RE X cls W e d) : RI X cls W tg e (iTup d) := by
  refine ⟨(pi_tup he.pe).imp fun σ H R t => ?_, fun ρ h => (he.g ρ h).bind fun w h1 _ l => by split <;> first | exact l | trivial⟩
  obtain ⟨φ, h, ρ, x, p⟩ := t
  refine x.first (he.g ρ h) p fun v H1 φ1 w1 h1 g1 x1 p1 => ?_
  have r1 : VR X.K φ1 h1.length H1 w1 v := g1.r
  split at p1
  · cases r1 with
    | @tup a vs ws hs hr =>
      refine ⟨a, rfl, ⟨vs, hs⟩, p1 φ1 _ H1 (Ext.refl _ _) (Keep.refl _) g1.C ?_⟩
      intro φ2 h2 H2 e2 l2 k2 C2 st
      have hs2 := k2.tup hs
      have hr2 := hr.mono e2 l2 k2
      refine ⟨⟨vs, hs2, by rw [← hr2.length]; exact Nat.le_refl _⟩, fun i w hw => ?_⟩
      obtain ⟨u, hu, ru⟩ := hr2.get hw
      refine ⟨⟨vs, u, hs2, hu⟩, fun y H3 hy => ?_⟩
      obtain ⟨rfl, fy⟩ := hy
      have ey := fy vs hs2
      rw [hu] at ey
      cases ey
      exact ⟨Keep.refl _, C2, ru⟩
  · exact p1.elim
theorem ri_str (he : RE X cls W e d) : RI X cls W tg e (PF.iStr d) := by
  refine ⟨(pi_str he.pe).imp fun σ H R t => ?_, fun ρ h => (he.g ρ h).bind fun w h1 _ l => by split <;> first | exact l | trivial⟩
  obtain ⟨φ, h, ρ, x, p⟩ := t
  refine x.first (he.g ρ h) p fun v H1 φ1 w1 h1 g1 x1 p1 => ?_
  have r1 : VR X.K φ1 h1.length H1 w1 v := g1.r
  split at p1
  · rename_i s
    cases r1 with
    | str _ hok =>
      refine ⟨sS s, rfl, p1 φ1 _ H1 (Ext.refl _ _) (Keep.refl _) g1.C ?_⟩
      intro φ2 h2 H2 e2 l2 k2 C2 st
      have el : (sS s).cps.size = s.length := by simp [sS]
      refine ⟨?_, fun i w hw => ?_⟩
      · show (sS s).cps.size ≤ _
        rw [el, List.length_map]
        exact Nat.le_refl _
      · rw [List.getElem?_map] at hw
        cases hc : s[i]? with
        | none => rw [hc] at hw; cases hw
        | some c =>
          rw [hc] at hw
          cases hw
          refine ⟨?_, fun y H3 hy => ?_⟩
          · show i < (sS s).cps.size
            rw [el]
            exact (List.getElem?_eq_some_iff.mp hc).1
          · obtain ⟨rfl, c', hc', rfl⟩ := hy
            have : (sS s).cps[i]? = s[i]? := by simp [sS]
            rw [this, hc] at hc'
            cases hc'
            exact ⟨Keep.refl _, C2, .str [c] (fun z hz => by rw [List.mem_singleton.mp hz]; exact hok c (List.mem_of_getElem? hc))⟩
  · exact p1.elim
theorem serves_rng {K : PySem.W.Frag} {φ : Phi} {n : Nat} {H : Hp} (lo : Int) (m : Nat) : Serves K cls φ n H (rngW lo m, []) (Itr lo m) := by
  intro φ2 h2 H2 e2 l2 k2 C2 st
  refine ⟨?_, fun i w hw => ?_⟩
  · show m ≤ (rngW lo m).length
    rw [rngW, List.length_map, List.length_range]
    exact Nat.le_refl _
  · have hw : (rngW lo m)[i]? = some w := hw
    rw [rngW, List.getElem?_map] at hw
    by_cases hi : i < m
    · rw [List.getElem?_range hi] at hw
      cases hw
      refine ⟨hi, fun y H3 hy => ?_⟩
      obtain ⟨rfl, rfl⟩ := hy
      exact ⟨Keep.refl _, C2, .int _⟩
    · rw [List.getElem?_eq_none (by rw [List.length_range]; omega)] at hw
      cases hw
theorem At.arg1 {γ δ : Type} {R' : Rl γ δ} {φ : Phi} {h : Hs} {ρ : Env} {σ : L2.St} {H : Hp} {f : PF.W → Hs → Res γ} {Q : δ → Hp → Prop} (x : At X.K cls φ h ρ σ H) (gd : Grow d)
    (p : Post X.K cls R' φ h.length H (fun c d H' => W c d σ H') Q ((d ρ h).bind f)) {Q1 : List V → Hp → Prop}
    (q : ∀ b H1 φ1 a h1, Go X.K cls (rW X.K) φ h.length H φ1 a h1 b H1 → At X.K cls φ1 h1 ρ σ H1 → Post X.K cls R' φ1 h1.length H1 (fun c d H' => W c d σ H') Q (f a h1) → Q1 [b] H1) : tG X.K cls (rWs X.K) W (aCons d aNil) σ H Q1 := by
  refine ⟨φ, h, ρ, x, ?_⟩
  have pb := p.bind (R := rW X.K) (gd ρ h)
  unfold aCons aNil
  revert pb
  cases d ρ h with
  | ok a h1 =>
    intro pb φ' b H' e k C r
    cases r with
    | cons r0 rr =>
      cases rr
      obtain ⟨φ1, a1, h2, g1, p1⟩ := pb φ' _ H' e k C r0
      exact q _ _ φ1 a1 h2 g1 (x.go g1) p1
  | exc c y h1 => exact fun pb => pb
  | stuck => exact fun pb => pb
theorem At.arg2 {γ δ : Type} {R' : Rl γ δ} {φ : Phi} {h : Hs} {ρ : Env} {σ : L2.St} {H : Hp} {f : PF.W → PF.W → Hs → Res γ} {Q : δ → Hp → Prop} (x : At X.K cls φ h ρ σ H) (gd : Grow d) (gd2 : Grow d2)
    (p : Post X.K cls R' φ h.length H (fun c d H' => W c d σ H') Q ((d ρ h).bind fun w h1 => (d2 ρ h1).bind fun u h2 => f w u h2)) {Q1 : List V → Hp → Prop}
    (q : ∀ b c H2 φ2 a u h2, At X.K cls φ2 h2 ρ σ H2 → VR X.K φ2 h2.length H2 a b → VR X.K φ2 h2.length H2 u c → Post X.K cls R' φ2 h2.length H2 (fun c d H' => W c d σ H') Q (f a u h2) → Q1 [b, c] H2) : tG X.K cls (rWs X.K) W (aCons d (aCons d2 aNil)) σ H Q1 := by
  refine ⟨φ, h, ρ, x, ?_⟩
  have g1 := gd ρ h
  unfold aCons aNil
  revert p g1
  cases d ρ h with
  | ok a h1 =>
    have g2 := gd2 ρ h1
    simp only [Res.bind_ok]
    revert g2
    cases d2 ρ h1 with
    | ok u h2 =>
      intro g2 p g1 φ' vs H' e k C r
      have l : h.length ≤ h2.length := Nat.le_trans g1 g2
      cases r with
      | cons r0 rr =>
        cases rr with
        | cons r1 rr =>
          cases rr
          exact q _ _ H' φ' a u h2 ⟨C, x.S.mono e l k⟩ r0 r1 (p.later e l k)
    | exc c y h2 => exact fun _ p _ => p
    | stuck => exact fun _ p _ => p
  | exc c y h1 => exact fun p _ => p
  | stuck => exact fun p _ => p
theorem ri_rng1 (hg : Gl X "range") (hm : X.mg "range" = none) (he : RE X cls W e d) (hs1 : starEach [e] X.env = (false, eval e X.env) :: starEach [] X.env := by rfl) (hs : starEach [e] X.env = [(false, eval e X.env)] := by rfl) : RI X cls W tg (.Call (.Name "range" p) [e] [] pos) (PF.iRng1 d) := by
  refine ⟨(pi_range1 hg hm (ra_cons he ra_nil hs1).pa hs).imp fun σ H R t => ?_, fun ρ h => (he.g ρ h).bind fun w h1 _ l => by
    split
    · split
      · exact l
      · trivial
    · trivial⟩
  obtain ⟨φ, h, ρ, x, p⟩ := t
  refine x.arg1 he.g p fun v H1 φ1 w1 h1 g1 x1 p1 => ?_
  have r1 : VR X.K φ1 h1.length H1 w1 v := g1.r
  split at p1
  · split at p1
    · rename_i hj
      cases r1
      exact ⟨_, rfl, hj.1, hj.2, p1 φ1 _ H1 (Ext.refl _ _) (Keep.refl _) g1.C (serves_rng _ _)⟩
    · exact p1.elim
  · exact p1.elim
theorem ri_rng2 (hg : Gl X "range") (hm : X.mg "range" = none) (he : RE X cls W e d) (he2 : RE X cls W e2 d2) (hs1 : starEach [e, e2] X.env = (false, eval e X.env) :: starEach [e2] X.env := by rfl) (hs1' : starEach [e2] X.env = (false, eval e2 X.env) :: starEach [] X.env := by rfl)
    (hs : starEach [e, e2] X.env = [(false, eval e X.env), (false, eval e2 X.env)] := by rfl) (hs2 : starEach [e2] X.env = [(false, eval e2 X.env)] := by rfl) : RI X cls W tg (.Call (.Name "range" p) [e, e2] [] pos) (PF.iRng2 d d2) := by
  refine ⟨(pi_range2 hg hm (ra_cons he (ra_cons he2 ra_nil hs1') hs1).pa hs hs2).imp fun σ H R t => ?_, fun ρ h => (he.g ρ h).bind fun w h1 _ l => ((he2.g ρ h1).le l).bind fun w h1 _ l => by
    split
    · split
      · exact l
      · trivial
    · trivial⟩
  obtain ⟨φ, h, ρ, x, p⟩ := t
  refine x.arg2 he.g he2.g p fun v u H1 φ1 w1 w2 h1 x1 r1 r2 p1 => ?_
  split at p1
  · split at p1
    · rename_i hj
      cases r1
      cases r2
      exact ⟨_, _, rfl, ⟨hj.1.1, hj.1.2, hj.2.1, hj.2.2⟩, p1 φ1 _ H1 (Ext.refl _ _) (Keep.refl _) x1.C (serves_rng _ _)⟩
    · exact p1.elim
  · exact p1.elim
theorem enumW_get : ∀ (ws : List PF.W) (k i : Nat), (enumW k ws)[i]? = (ws[i]?).map fun w => .tup [.int ((k + i : Nat) : Int), w]
  | [], _, _ => by simp [enumW]
  | w :: ws, k, 0 => by simp [enumW]
  | w :: ws, k, i + 1 => by
    rw [enumW, List.getElem?_cons_succ, List.getElem?_cons_succ, enumW_get ws (k + 1) i, show k + 1 + i = k + (i + 1) by omega]
theorem enumW_len : ∀ (ws : List PF.W) (k : Nat), (enumW k ws).length = ws.length
  | [], _ => rfl
  | w :: ws, k => by rw [enumW, List.length_cons, List.length_cons, enumW_len]
theorem zipW_get : ∀ (ws us : List PF.W) (i : Nat) (z : PF.W), (zipW ws us)[i]? = some z → ∃ w u, z = .tup [w, u] ∧ ws[i]? = some w ∧ us[i]? = some u
  | [], _, _, _, e => by simp [zipW] at e
  | _ :: _, [], _, _, e => by simp [zipW] at e
  | w :: ws, u :: us, 0, z, e => by
    simp [zipW] at e
    exact ⟨w, u, e.symm, rfl, rfl⟩
  | w :: ws, u :: us, i + 1, z, e => by
    rw [zipW, List.getElem?_cons_succ] at e
    exact zipW_get ws us i z e
theorem zipW_len : ∀ (ws us : List PF.W), (zipW ws us).length = min ws.length us.length
  | [], _ => by simp [zipW]
  | _ :: _, [] => by simp [zipW]
  | w :: ws, u :: us => by rw [zipW, List.length_cons, List.length_cons, List.length_cons, zipW_len]; omega
theorem ri_enum {elts : List Expr} {kk : Nat} (hg : Gl X "enumerate") (hm : X.mg "enumerate" = none) (he : RE X cls W e d) (hs1 : starEach [e] X.env = (false, eval e X.env) :: starEach [] X.env := by rfl) (hs : starEach [e] X.env = [(false, eval e X.env)] := by rfl) :
    RI X cls W (.Tuple elts kk tpos) (.Call (.Name "enumerate" p) [e] [] pos) (PF.iEnum d) := by
  refine ⟨(pi_enum hg hm (ra_cons he ra_nil hs1).pa hs).imp fun σ H R t => ?_, grow_lstOf he.g fun _ _ _ => Nat.le_refl _⟩
  obtain ⟨φ, h, ρ, x, p⟩ := t
  refine x.arg1 he.g p fun v H1 φ1 w1 h1 g1 x1 p1 => ?_
  have r1 : VR X.K φ1 h1.length H1 w1 v := g1.r
  split at p1
  · rename_i ws e1
    obtain ⟨a, vs, rfl, hs, hr⟩ := lstOf_at g1.C r1 e1
    refine ⟨a, vs, rfl, hs, p1 φ1 _ H1 (Ext.refl _ _) (Keep.refl _) g1.C ?_⟩
    intro φ2 h2 H2 e2 l2 k2 C2 st
    obtain ⟨st1, _⟩ := stays_cons st
    obtain ⟨b, us, eb, hs2, hr2⟩ := lstOf_at C2 (r1.mono e2 l2 k2) st1
    cases eb
    refine ⟨⟨us, hs2, by rw [enumW_len, ← hr2.length]; exact Nat.le_refl _⟩, fun i z hz => ?_⟩
    have hz : (enumW 0 ws)[i]? = some z := hz
    rw [enumW_get] at hz
    cases hw : ws[i]? with
    | none => rw [hw] at hz; cases hz
    | some w =>
      rw [hw] at hz
      cases hz
      obtain ⟨u, hu, ru⟩ := hr2.get hw
      refine ⟨⟨us, u, hs2, hu⟩, fun y H3 hy => ?_⟩
      obtain ⟨T, x', rfl, hT, rfl, fy⟩ := hy
      have ey := fy us hs2
      rw [hu] at ey
      cases ey
      refine ⟨keep_new hT, C2.other hT, .tup (.inl (.inl upd_same)) (.cons ?_ (.cons (ru.mono (Ext.refl _ _) (Nat.le_refl _) (keep_new hT)) .nil))⟩
      rw [Nat.zero_add]
      exact .int _
  · exact p1.elim
theorem ri_zip {elts : List Expr} {kk : Nat} (hg : Gl X "zip") (hm : X.mg "zip" = none) (he : RE X cls W e d) (he2 : RE X cls W e2 d2) (hs1' : starEach [e2] X.env = (false, eval e2 X.env) :: starEach [] X.env := by rfl)
    (hs : starEach [e, e2] X.env = (false, eval e X.env) :: starEach [e2] X.env := by rfl) (hpl : (backTo pos (starEach [e2] X.env)).any (·.1) = false := by rfl) :
    RI X cls W (.Tuple elts kk tpos) (.Call (.Name "zip" p) [e, e2] [] pos) (PF.iZip d d2) := by
  refine ⟨(pi_zip hg hm (ra_cons he (ra_cons he2 ra_nil hs1') hs).pa hs hpl).imp fun σ H R t => ?_, fun ρ h => (he.g ρ h).bind fun w h1 _ l => ((he2.g ρ h1).le l).bind fun w h1 _ l => by
    split
    · exact l
    · trivial⟩
  obtain ⟨φ, h, ρ, x, p⟩ := t
  refine x.arg2 he.g he2.g p fun v u H1 φ1 w1 w2 h1 x1 r1 r2 p1 => ?_
  split at p1
  · rename_i ws us e1 e2
    obtain ⟨a, vs, rfl, hsa, hra⟩ := lstOf_at x1.C r1 e1
    obtain ⟨b, vb, rfl, hsb, hrb⟩ := lstOf_at x1.C r2 e2
    refine ⟨a, b, vs, vb, rfl, hsa, hsb, p1 φ1 _ H1 (Ext.refl _ _) (Keep.refl _) x1.C ?_⟩
    intro φ2 h2 H2 e2 l2 k2 C2 st
    obtain ⟨st1, st⟩ := stays_cons st
    obtain ⟨st2, _⟩ := stays_cons st
    obtain ⟨a', us1, eb, hs2, hr2⟩ := lstOf_at C2 (r1.mono e2 l2 k2) st1
    cases eb
    obtain ⟨b', us2, eb, hs3, hr3⟩ := lstOf_at C2 (r2.mono e2 l2 k2) st2
    cases eb
    refine ⟨⟨us1, us2, hs2, hs3, ?_⟩, fun i z hz => ?_⟩
    · show us1.length ≤ (zipW ws us).length ∨ us2.length ≤ (zipW ws us).length
      have q1 : ws.length = us1.length := hr2.length
      have q2 : us.length = us2.length := hr3.length
      rw [zipW_len]
      omega
    obtain ⟨w, u, rfl, hw, hu⟩ := zipW_get _ _ _ _ hz
    obtain ⟨x', hx', rx⟩ := hr2.get hw
    obtain ⟨y', hy', ry⟩ := hr3.get hu
    refine ⟨⟨us1, us2, x', y', hs2, hs3, hx', hy'⟩, fun y H3 hy => ?_⟩
    obtain ⟨T, x2, y2, rfl, hT, rfl, f1, f2⟩ := hy
    have e1 := f1 _ hs2
    rw [hx'] at e1
    cases e1
    have e2 := f2 _ hs3
    rw [hy'] at e2
    cases e2
    exact ⟨keep_new hT, C2.other hT, .tup (.inl (.inl upd_same)) (.cons (rx.mono (Ext.refl _ _) (Nat.le_refl _) (keep_new hT)) (.cons (ry.mono (Ext.refl _ _) (Nat.le_refl _) (keep_new hT)) .nil))⟩
  · exact p1.elim
theorem ri_rev (hg : Gl X "reversed") (hm : X.mg "reversed" = none) (he : RE X cls W e d) (hs1 : starEach [e] X.env = (false, eval e X.env) :: starEach [] X.env := by rfl) (hs : starEach [e] X.env = [(false, eval e X.env)] := by rfl) :
    RI X cls W tg (.Call (.Name "reversed" p) [e] [] pos) (PF.iRev d) := by
  refine ⟨(pi_reversed hg hm (ra_cons he ra_nil hs1).pa hs).imp fun σ H R t => ?_, grow_lstOf he.g fun _ _ _ => Nat.le_refl _⟩
  obtain ⟨φ, h, ρ, x, p⟩ := t
  refine x.arg1 he.g p fun v H1 φ1 w1 h1 g1 x1 p1 => ?_
  have r1 : VR X.K φ1 h1.length H1 w1 v := g1.r
  split at p1
  · rename_i ws e1
    obtain ⟨a, vs, rfl, hs, hr⟩ := lstOf_at g1.C r1 e1
    refine ⟨a, vs, rfl, hs, p1 φ1 _ H1 (Ext.refl _ _) (Keep.refl _) g1.C ?_⟩
    intro φ2 h2 H2 e2 l2 k2 C2 st
    obtain ⟨st1, _⟩ := stays_cons st
    obtain ⟨b, us, eb, hs2, hr2⟩ := lstOf_at C2 (r1.mono e2 l2 k2) st1
    cases eb
    have el : us.length = vs.length := by rw [← hr2.length, ← hr.length]
    refine ⟨?_, fun i w hw => ?_⟩
    · show vs.length ≤ ws.reverse.length
      rw [List.length_reverse, hr.length]
      exact Nat.le_refl _
    have hw : ws.reverse[i]? = some w := hw
    have hi : i < ws.length := by
      have := (List.getElem?_eq_some_iff.mp hw).1
      rwa [List.length_reverse] at this
    rw [List.getElem?_reverse hi] at hw
    obtain ⟨u, hu, ru⟩ := hr2.get hw
    have en : ws.length - 1 - i = vs.length - 1 - i := by rw [hr.length]
    rw [en] at hu
    refine ⟨⟨by rw [← hr.length]; exact hi, us, u, hs2, hu⟩, fun y H3 hy => ?_⟩
    obtain ⟨rfl, fy⟩ := hy
    have ey := fy us hs2
    rw [hu] at ey
    cases ey
    exact ⟨Keep.refl _, C2, ru⟩
  · exact p1.elim
theorem _root_.L2.PI.or {X : Cx} {tg e : Expr} {t t' : TI} (h : PI X tg e t) (h' : PI X tg e t') : PI X tg e (fun σ H R => t σ H R ∨ t' σ H R) := ⟨fun pins s σ H Q I q => q.elim (h.run pins s σ H Q I) (h'.run pins s σ H Q I)⟩
theorem gi_any (ga : Grow d) : Grow (PF.iAny d) := fun ρ h => (ga ρ h).bind fun w h1 _ l => by
  split
  · exact l
  · exact l
  · exact l
  · split
    · exact l
    · trivial
  · trivial
theorem ri_any (he : RE X cls W e d) : RI X cls W tg e (PF.iAny d) := by
  refine ⟨(((ri_lst he).pi.or (ri_tup he).pi).or (ri_str he).pi).imp fun σ H R t => ?_, gi_any he.g⟩
  obtain ⟨φ, h, ρ, x, p⟩ := t
  unfold PF.iAny at p
  cases hd : d ρ h with
  | exc c y h1 =>
    rw [hd] at p
    exact .inl (.inl ⟨φ, h, ρ, x, by unfold iLst; rw [hd]; exact p⟩)
  | stuck => rw [hd] at p; exact p.elim
  | ok w h1 =>
    rw [hd] at p
    cases w with
    | tup ws => exact .inl (.inr ⟨φ, h, ρ, x, by unfold PF.iTup; rw [hd]; exact p⟩)
    | str s => exact .inr ⟨φ, h, ρ, x, by unfold PF.iStr; rw [hd]; exact p⟩
    | fl ws => exact .inl (.inl ⟨φ, h, ρ, x, by unfold iLst; rw [hd]; exact p⟩)
    | ref i =>
      refine .inl (.inl ⟨φ, h, ρ, x, ?_⟩)
      unfold iLst
      rw [hd]
      revert p
      show Post _ _ _ _ _ _ _ _ (match h1[i]? with
        | some (.lst ws) => .ok (ws, [(PF.W.ref i, ws)]) h1
        | _ => .stuck) → Post _ _ _ _ _ _ _ _ (match lstOf (.ref i) h1 with
        | some ws => .ok (ws, [(PF.W.ref i, ws)]) h1
        | none => .stuck)
      unfold lstOf
      dsimp only
      cases h1[i]? with
      | none => exact fun p => p
      | some c => cases c <;> exact fun p => p
    | _ => exact p.elim
end
end PF
namespace PF
open PySem PySem.Spec PyProof.Rows L2
/-! ### for -/
theorem growS_onO {n : Nat} {o : Option Env} {k : Env → Out} (h : ∀ ρ, growsS n (k ρ)) : growsS n (onO o k) := by
  unfold onO
  split
  · exact h _
  · trivial
theorem grow_forL {g : List (PF.W × List PF.W)} {tg : Tg} {b : Sm} (gb : GrowS b) : ∀ ws, GrowS (forL g tg b ws)
  | [] => fun ρ h => by
    rw [forL]
    split
    · exact Nat.le_refl _
    · trivial
  | w :: ws => fun ρ h => by
    rw [forL]
    split
    · refine growS_onO fun ρ1 => ?_
      have g1 := gb ρ1 h
      revert g1
      cases b ρ1 h with
      | nx ρ2 h2 => exact fun g1 => (grow_forL gb ws ρ2 h2).le g1
      | ct ρ2 h2 => exact fun g1 => (grow_forL gb ws ρ2 h2).le g1
      | _ => exact fun g1 => g1
    · trivial
section
variable {X : Cx} {cls : Cl} {W : WX} {e tg : Expr} {body : List Stmt} {b : Sm} {it : PF.I} {g : Tg} {pos : Pos}
theorem rs_for (hp : PassesOwn (model X.prog X.w) X.A X.env X.xe) (hc : X.calm = true) (hi : RI X cls W tg e it) (hg : PG X tg (tT X.K g)) (hb : RSs X cls W body b)
    (hs : ∀ x, foldedSetIterable e X.env x = pure x := by intro _; rfl) : RS X cls W (.For tg e body [] pos) (sFor it g b) := by
  refine ⟨(ps_for hp hc hi.pi hg hb.ps hs).imp fun D σ H t => t.ok fun φ h ρ x p => ?_, fun ρ h => growsS.onR (hi.g ρ h) fun J h1 _ l => (grow_forL hb.g _ ρ h1).le l⟩
  refine ⟨φ, h, ρ, x, ?_⟩
  have gi := hi.g ρ h
  unfold sFor at p
  revert p gi
  cases it ρ h with
  | exc c y h1 => exact fun p gi φ' d H' e k C r => p φ' d σ H' e k ⟨C, x.S.mono e gi k⟩ r
  | stuck => exact fun p _ => p
  | ok J h1 =>
    intro p l1 φ1 J' H1 e1 k1 C1 sv
    obtain ⟨ws, gd⟩ := J
    have x1 : At X.K cls φ1 h1 ρ σ H1 := ⟨C1, x.S.mono e1 l1 k1⟩
    have p1 := PostS.later p e1 l1 k1
    refine ⟨fun i m σ2 H2 => m = ws.length - i ∧ i ≤ ws.length ∧ ∃ φ2 h2 ρ2, Ext φ1 φ2 h1.length ∧ h1.length ≤ h2.length ∧ Keep H1 H2 ∧ At X.K cls φ2 h2 ρ2 σ2 H2 ∧ PostS X.K cls φ2 h2.length H2 W D (forL gd g b (ws.drop i) ρ2 h2), ⟨ws.length, by omega, Nat.zero_le _, φ1, h1, ρ, Ext.refl _ _, Nat.le_refl _, Keep.refl _, x1, by rw [List.drop_zero]; exact p1⟩, ?_⟩
    rintro i m σ2 H2 ⟨rfl, hi2, φ2, h2, ρ2, e2, l2, k2, x2, p2⟩
    by_cases hlt : i < ws.length
    · rw [List.drop_eq_getElem_cons hlt, forL] at p2
      split at p2
      · rename_i hst
        obtain ⟨_, go⟩ := sv φ2 h2 H2 e2 l2 k2 x2.C hst
        obtain ⟨g1, g2⟩ := go i ws[i] (List.getElem?_eq_getElem hlt)
        refine .inr ⟨g1, fun σ' H' => i + 1 ≤ ws.length ∧ ∃ φ2 h2 ρ2, Ext φ1 φ2 h1.length ∧ h1.length ≤ h2.length ∧ Keep H1 H' ∧ At X.K cls φ2 h2 ρ2 σ' H' ∧ PostS X.K cls φ2 h2.length H' W D (forL gd g b (ws.drop (i + 1)) ρ2 h2), fun σ' H' q => ⟨ws.length - (i + 1), by omega, rfl, q⟩, fun y H3 hy => ?_⟩
        obtain ⟨k3, C3, r3⟩ := g2 y H3 hy
        unfold onO at p2
        split at p2
        · rename_i ρ3 e3
          refine ⟨φ2, h2.length, ws[i], ρ2, r3, x2.S.mono (Ext.refl _ _) (Nat.le_refl _) k3, ρ3, e3, fun σ3 s3 _ => ⟨φ2, h2, ρ3, ⟨C3, s3⟩, ?_⟩⟩
          have p3 := PostS.later p2 (Ext.refl _ _) (Nat.le_refl _) k3
          dsimp only at p3
          have g4 := hb.g ρ3 h2
          revert g4 p3
          cases b ρ3 h2 with
          | nx ρ4 h4 => exact fun p3 g4 φ4 σ4 H4 e4 k4 x4 => ⟨hlt, φ4, h4, ρ4, e2.trans e4 l2, Nat.le_trans l2 g4, (k2.trans k3).trans k4, x4, PostS.later p3 e4 g4 k4⟩
          | ct ρ4 h4 => exact fun p3 g4 φ4 σ4 H4 e4 k4 x4 => ⟨hlt, φ4, h4, ρ4, e2.trans e4 l2, Nat.le_trans l2 g4, (k2.trans k3).trans k4, x4, PostS.later p3 e4 g4 k4⟩
          | bk ρ4 h4 => exact fun p3 g4 => p3
          | ret w4 h4 => exact fun p3 g4 => p3
          | exc c4 y4 ρ4 h4 => exact fun p3 g4 => p3
          | stuck => exact fun p3 g4 => p3
        · exact p2.elim
      · exact p2.elim
    · have ei : i = ws.length := by omega
      subst ei
      rw [List.drop_length, forL] at p2
      split at p2
      · rename_i hst
        obtain ⟨st, _⟩ := sv φ2 h2 H2 e2 l2 k2 x2.C hst
        exact .inl ⟨st, p2 φ2 σ2 H2 (Ext.refl _ _) (Keep.refl _) x2⟩
      · exact p2.elim
/-! ### a comprehension -/
structure RTs (X : Cx) (cls : Cl) (W : WX) (e : List Expr) (d : T) : Prop where
  pt : PTs X e (tG X.K cls rB W d)
  g : Grow d
theorem _root_.L2.PTs.imp {X : Cx} {e : List Expr} {t t' : TT} (h : PTs X e t) (i : ∀ σ H Q, t' σ H Q → t σ H Q) : PTs X e t' := ⟨fun pins s σ H Q I q => h.run pins s σ H Q I (i _ _ _ q)⟩
theorem rts_nil : RTs X cls W [] PF.tYes := ⟨pts_nil.imp fun σ H Q t => t.ok fun φ h ρ x p => p φ _ H (Ext.refl _ _) (Keep.refl _) x.C rfl, fun _ _ => Nat.le_refl _⟩
theorem rts_one {c : Expr} {t : T} (h : RT X cls W c t) : RTs X cls W [c] t := ⟨pts_one h.pt, h.g⟩
abbrev W0 : WX := fun _ _ _ _ => False
theorem wipe_eq {σ1 σ : L2.St} : ∀ {own : List Nat}, σ1.length = σ.length → (∀ j, j ∉ own → σ1[j]? = σ[j]?) → L2.wipe σ1 own = L2.wipe σ own := fun {own} hl hf => by
  apply List.ext_getElem?
  intro j
  have key : ∀ (own : List Nat) (τ : L2.St), (L2.wipe τ own)[j]? = if j ∈ own then (if j < τ.length then some none else none) else τ[j]? := by
    intro own
    induction own with
    | nil => intro τ; simp [L2.wipe]
    | cons i is ih =>
      intro τ
      rw [L2.wipe, List.getElem?_set, ih τ, wipe_length]
      by_cases e : i = j
      · subst e
        simp
      · rw [if_neg e]
        have : (j ∈ i :: is) = (j ∈ is) := by
          rw [List.mem_cons]
          exact propext ⟨fun z => z.resolve_left fun y => e y.symm, .inr⟩
        simp only [this]
  rw [key own σ1, key own σ, hl]
  by_cases e : j ∈ own
  · rw [if_pos e, if_pos e]
  · rw [if_neg e, if_neg e, hf j e]
theorem wipe_wipe (σ : L2.St) (own : List Nat) : L2.wipe (L2.wipe σ own) own = L2.wipe σ own := by
  refine wipe_eq (wipe_length _ _) fun j hj => ?_
  induction own with
  | nil => rfl
  | cons i is ih =>
    rw [L2.wipe, List.getElem?_set_ne (fun z => hj (by rw [z]; exact List.mem_cons_self)), ih fun z => hj (List.mem_cons_of_mem _ z)]
theorem grow_compL {gd : List (PF.W × List PF.W)} {dl : Nat} {g : Tg} {t : T} {e : PF.D} (gt : Grow t) (ge : Grow e) : ∀ ws, Grow (compL gd dl g t e ws)
  | [] => fun ρ h => by
    rw [compL]
    split
    · exact Nat.le_refl _
    · trivial
  | w :: ws => fun ρ h => by
    rw [compL]
    split
    · split
      · refine (gt _ h).noX.bind fun c h1 _ l1 => ?_
        split
        · refine ((ge _ h1).noX.le l1).bind fun y h2 _ l2 => ?_
          split
          · split
            · rename_i acc _ _
              exact (grow_compL gt ge ws ρ (h2.set dl (.lst (acc ++ [y])))).le (by rw [List.length_set]; exact l2)
            · trivial
          · trivial
        · exact (grow_compL gt ge ws ρ h1).le l1
      · trivial
    · trivial
theorem grow_comp {t : T} {d : PF.D} {own : List Nat} (gi : Grow it) (gt : Grow t) (ge : Grow d) : Grow (dComp it g t d own) := fun ρ h => (gi ρ h).bind fun J h1 _ l => (grow_compL gt ge _ _ _).le (by rw [List.length_append]; omega)
theorem comp_imp {t : T} {d : PF.D} {own : List Nat} {tt : TT} {te : TE} {tg : TG} (gi : Grow it) (gt : Grow t) (ge : Grow d) (hown : ∀ j, j ∈ g.ids → j ∈ own)
    (htg : ∀ v σ H Q, tT X.K g v σ H Q → tg v σ H Q) (htt : ∀ σ H Q, tG X.K cls rB W0 t σ H Q → tt σ H Q) (hte : ∀ σ H Q, tG X.K cls (rW X.K) W0 d σ H Q → te σ H Q) {σ : L2.St} {H : Hp} {Q : VK} (t0 : tG X.K cls (rW X.K) W (dComp it g t d own) σ H Q) : tLc (tI X.K cls W it) tg tt te own σ H Q := by
  obtain ⟨φ, h, ρ, x, p⟩ := t0
  refine ⟨φ, h, ρ, x, (p.bind (R := Serves X.K cls) (gi ρ h)).mono ?_⟩
  rintro J' H1 ⟨φ1, ⟨ws, gd⟩, h1, g1, p1⟩ D hD
  have x1 : At X.K cls φ1 h1 ρ σ H1 := x.go g1
  have sv : Serves X.K cls φ1 h1.length H1 (ws, gd) J' := g1.r
  have kD := keep_new (o := .lst []) hD
  have CD : Cells X.K cls (put φ1 h1.length D) (h1 ++ [.lst []]) (upd H1 D (.lst [])) := x1.C.new hD ⟨[], upd_same, .nil⟩
  have eD : Ext φ1 (put φ1 h1.length D) h1.length := put_ext _ _ _
  have lD : (h1 ++ [Cell.lst []]).length = h1.length + 1 := by rw [List.length_append]; rfl
  -- the invariant
  refine ⟨fun i m H2 => m = ws.length - i ∧ i ≤ ws.length ∧ ∃ φ2 h2, Ext (put φ1 h1.length D) φ2 (h1.length + 1) ∧ h1.length + 1 ≤ h2.length ∧ Keep H1 H2 ∧ Cells X.K cls φ2 h2 H2 ∧ Post X.K cls (rW X.K) φ2 h2.length H2 (fun c d H' => W c d σ H') Q (compL gd h1.length g t d (ws.drop i) (PF.wipe ρ own) h2),
    ⟨ws.length, by omega, Nat.zero_le _, _, _, Ext.refl _ _, by rw [lD]; exact Nat.le_refl _, kD, CD, by rw [List.drop_zero]; exact p1.later eD (by rw [lD]; omega) kD⟩, ?_⟩
  rintro i m H2 ⟨rfl, hi2, φ2, h2, e2, l2, k2, C2, p2⟩
  have e12 : Ext φ1 φ2 h1.length := eD.trans e2 (Nat.le_succ _)
  have l12 : h1.length ≤ h2.length := by omega
  have eDa : φ2 h1.length = D := by rw [e2.ix _ (Nat.lt_succ_self _), put_at]
  have xw : At X.K cls φ2 h2 (PF.wipe ρ own) (L2.wipe σ own) H2 := ⟨C2, wipe_slots (x1.S.mono e12 l12 k2) own⟩
  by_cases hlt : i < ws.length
  · rw [List.drop_eq_getElem_cons hlt, compL] at p2
    split at p2
    · rename_i hst
      obtain ⟨_, go⟩ := sv φ2 h2 H2 e12 l12 k2 C2 hst
      obtain ⟨g3, g4⟩ := go i ws[i] (List.getElem?_eq_getElem hlt)
      refine .inr ⟨g3, fun H' => i + 1 ≤ ws.length ∧ ∃ φ2 h2, Ext (put φ1 h1.length D) φ2 (h1.length + 1) ∧ h1.length + 1 ≤ h2.length ∧ Keep H1 H' ∧ Cells X.K cls φ2 h2 H' ∧ Post X.K cls (rW X.K) φ2 h2.length H' (fun c d H' => W c d σ H') Q (compL gd h1.length g t d (ws.drop (i + 1)) (PF.wipe ρ own) h2), fun H' q => ⟨ws.length - (i + 1), by omega, rfl, q⟩, fun y H3 hy => ?_⟩
      obtain ⟨k3, C3, r3⟩ := g4 y H3 hy
      split at p2
      · rename_i ρ3 e3
        refine htg _ _ _ _ ⟨φ2, h2.length, ws[i], PF.wipe ρ own, r3, xw.S.mono (Ext.refl _ _) (Nat.le_refl _) k3, ρ3, e3, fun σ3 s3 f3 => ⟨?_, ?_⟩⟩
        · rw [← wipe_wipe σ own]
          refine wipe_eq ?_ fun j hj => f3 j fun z => hj (hown j z)
          rw [← s3.1]
          have s4 := xw.S.1
          have : ∀ (g : Tg) (w : PF.W) (ρ ρ1 : Env), g.run w ρ = some ρ1 → ρ1.length = ρ.length := by
            have key : ∀ n (g : Tg), sizeOf g ≤ n → ∀ (w : PF.W) (ρ ρ1 : Env), g.run w ρ = some ρ1 → ρ1.length = ρ.length := by
              intro n
              induction n with
              | zero => intro g hg; cases g <;> simp at hg
              | succ n ih =>
                intro g hg w ρ ρ1 e
                cases g with
                | n i =>
                  rw [Tg.run] at e
                  split at e
                  · cases e; rw [List.length_set]
                  · cases e
                | t gs =>
                  cases w with
                  | tup ws =>
                    rw [Tg.run] at e
                    have hgs : sizeOf gs ≤ n := by simp at hg; omega
                    clear hg
                    induction gs generalizing ws ρ with
                    | nil =>
                      cases ws with
                      | nil => rw [Tg.runs] at e; cases e; rfl
                      | cons _ _ => simp [Tg.runs] at e
                    | cons g0 gs ih2 =>
                      cases ws with
                      | nil => simp [Tg.runs] at e
                      | cons w0 ws =>
                        rw [Tg.runs] at e
                        cases e1 : g0.run w0 ρ with
                        | none => rw [e1] at e; cases e
                        | some ρ2 =>
                          rw [e1] at e
                          simp at hgs
                          rw [ih2 ρ2 ws e (by omega), ih g0 (by omega) w0 ρ ρ2 e1]
                  | _ => simp [Tg.run] at e
            exact fun g => key _ g (Nat.le_refl _)
          rw [this _ _ _ _ e3, s4]
        · have x3 : At X.K cls φ2 h2 ρ3 σ3 H3 := ⟨C3, s3⟩
          have p3 := Post.later p2 (Ext.refl _ _) (Nat.le_refl _) k3
          refine htt _ _ _ ⟨φ2, h2, ρ3, x3, Post.noX ((p3.bind (R := rB) (gt ρ3 h2).noX).mono ?_)⟩
          rintro c H4 ⟨φ4, c', h4, g4, p4⟩
          have ec : c' = c := g4.r
          subst ec
          have x4 : At X.K cls φ4 h4 ρ3 σ3 H4 := x3.go g4
          split
          · rename_i ec
            rw [if_pos ec] at p4
            refine hte _ _ _ ⟨φ4, h4, ρ3, x4, Post.noX ((p4.bind (R := rW X.K) (ge ρ3 h4).noX).mono ?_)⟩
            rintro y5 H5 ⟨φ5, y', h5, g5, p5⟩
            have e25 : Ext φ2 φ5 h2.length := Ext.trans g4.e g5.e g4.l
            have l25 : h2.length ≤ h5.length := Nat.le_trans g4.l g5.l
            have eDa5 : φ5 h1.length = D := by rw [e25.ix _ (by omega), eDa]
            split at p5
            · rename_i acc ea
              split at p5
              · rename_i hacc
                obtain ⟨vs, hv1, hv2⟩ := g5.C.cell _ _ ea
                rw [eDa5] at hv1
                have hl5 : h1.length < h5.length := by omega
                have kk : Keep H5 (upd H5 D (.lst (vs ++ [y5]))) := keep_set hv1 fun z => z
                refine ⟨vs, hv1, by rw [← hv2.length, ← bigL_eq]; exact hacc, hlt, φ5, h5.set h1.length (.lst (acc ++ [y'])), ?_, by rw [List.length_set]; omega, ?_, ?_, ?_⟩
                · exact Ext.trans e2 (e25.le l2) (Nat.le_refl _)
                · exact ((((k2.trans k3).trans g4.k).trans g5.k).trans kk)
                · have cc := g5.C.chg (o := .lst (vs ++ [y5])) (c := .lst (acc ++ [y'])) hl5 (by
                    rw [eDa5]
                    exact ⟨vs ++ [y5], upd_same, (VRs.snoc hv2 g5.r).mono (Ext.refl _ _) (Nat.le_refl _) kk⟩)
                  rw [eDa5] at cc
                  exact cc
                · exact Post.later p5 (Ext.refl _ _) (by rw [List.length_set]; exact Nat.le_refl _) kk
              · exact p5.elim
            · exact p5.elim
          · rename_i ec
            rw [if_neg ec] at p4
            refine ⟨hlt, φ4, h4, Ext.trans e2 (g4.e.le l2) (Nat.le_refl _), Nat.le_trans l2 g4.l, (k2.trans k3).trans g4.k, x4.C, p4⟩
      · exact p2.elim
    · exact p2.elim
  · have ei : i = ws.length := by omega
    subst ei
    rw [List.drop_length, compL] at p2
    split at p2
    · rename_i hst
      obtain ⟨st, _⟩ := sv φ2 h2 H2 e12 l12 k2 C2 hst
      refine .inl ⟨st, ?_⟩
      have := p2 φ2 (.ref D) H2 (Ext.refl _ _) (Keep.refl _) C2
      refine this ?_
      rw [← eDa]
      exact .ref (by omega)
    · exact p2.elim
end
end PF
namespace PF
open PySem PySem.Spec PyProof.Rows L2
section
variable {X : Cx} {cls : Cl} {W : WX}
theorem re_comp {elt tg iter : Expr} {ifs : List Expr} {scope : Scope} {own : List (PySem.Str × Nat)} {pos : Pos} {it : PF.I} {g : Tg} {t : T} {d : PF.D} (hc : X.calm = true) (hN : X.N.Nodup) (hi : RI X cls W tg iter it) (ok : BlkOk X.N X.env.scope scope own)
    (hg : ∀ (s : Shared) (H : Hp) (C : Addr) (cl : List (PySem.Str × Addr)) (fp : List Addr), PG (X.blk s H scope (compEnvC scope cl C X.env) fp) tg (tT X.K g))
    (ht : ∀ (s : Shared) (H : Hp) (C : Addr) (cl : List (PySem.Str × Addr)) (fp : List Addr), RTs (X.blk s H scope (compEnvC scope cl C X.env) fp) cls W0 ifs t)
    (he : ∀ (s : Shared) (H : Hp) (C : Addr) (cl : List (PySem.Str × Addr)) (fp : List Addr), RE (X.blk s H scope (compEnvC scope cl C X.env) fp) cls W0 elt d)
    (gt : Grow t) (ge : Grow d) (hown : ∀ j, j ∈ g.ids → j ∈ own.map (·.2)) (hs : ∀ x, foldedSetIterable iter X.env x = pure x := by intro _; rfl) :
    RE X cls W (.ListComp elt [⟨tg, iter, ifs, 0⟩] scope pos) (dComp it g t d (own.map (·.2))) :=
  ⟨(pe_lc hc hN hi.pi ok hg (fun s H C cl fp => (ht s H C cl fp).pt) (fun s H C cl fp => (he s H C cl fp).pe) hs).imp fun σ H Q q => comp_imp (X := X) (W := W) hi.g gt ge hown (fun _ _ _ _ z => z) (fun _ _ _ z => z) (fun _ _ _ z => z) q,
   grow_comp hi.g gt ge⟩
theorem rs_setComp (i : Nat) {y : PySem.Str} {py : Pos} {elt tg iter : Expr} {ifs : List Expr} {scope : Scope} {own : List (PySem.Str × Nat)} {pos spos : Pos} {it : PF.I} {g : Tg} {t : T} {d : PF.D} (hc : X.calm = true) (hN : X.N.Nodup) (hy : X.N[i]? = some y) (hyl : X.env.scope.names.lookup y = some .local)
    (hsw : swapsWith (.ListComp elt [⟨tg, iter, ifs, 0⟩] scope pos) (some (.Name y py)) spos.line X.env = pure true) (hi : RI X cls W tg iter it) (ok : BlkOk X.N X.env.scope scope own)
    (hg : ∀ (s : Shared) (H : Hp) (C : Addr) (cl : List (PySem.Str × Addr)) (fp : List Addr), PG (X.blk s H scope (compEnvC scope cl C X.env) fp) tg (tT X.K g))
    (ht : ∀ (s : Shared) (H : Hp) (C : Addr) (cl : List (PySem.Str × Addr)) (fp : List Addr), RTs (X.blk s H scope (compEnvC scope cl C X.env) fp) cls W0 ifs t)
    (he : ∀ (s : Shared) (H : Hp) (C : Addr) (cl : List (PySem.Str × Addr)) (fp : List Addr), RE (X.blk s H scope (compEnvC scope cl C X.env) fp) cls W0 elt d)
    (gt : Grow t) (ge : Grow d) (hown : ∀ j, j ∈ g.ids → j ∈ own.map (·.2)) (hs : ∀ x, foldedSetIterable iter X.env x = pure x := by intro _; rfl) :
    RS X cls W (.Assign [.Name y py] (.ListComp elt [⟨tg, iter, ifs, 0⟩] scope pos) spos) (sAsg (dComp it g t d (own.map (·.2))) (.n i)) :=
  ⟨(ps_setLc hc hN hy hyl hsw hi.pi ok hg (fun s H C cl fp => (ht s H C cl fp).pt) (fun s H C cl fp => (he s H C cl fp).pe) hs).imp fun D σ H q => by
    obtain ⟨φ, h, ρ, x, p⟩ := q
    -- the comprehension, then the name
    have gc := grow_comp (own := own.map (·.2)) hi.g gt ge (g := g)
    refine comp_imp (X := X) (W := W) hi.g gt ge hown (fun _ _ _ _ z => z) (fun _ _ _ z => z) (fun _ _ _ z => z) (x.firstS (R := rW X.K) (gc ρ h) p fun v H1 φ1 w1 h1 g1 x1 p1 => ?_)
    unfold onO at p1
    split at p1
    · rename_i ρ1 e
      exact gname_imp _ _ _ _ ⟨φ1, h1.length, w1, ρ, g1.r, x1.S, ρ1, e, fun σ1 s1 _ => p1 φ1 σ1 H1 (Ext.refl _ _) (Keep.refl _) ⟨g1.C, s1⟩⟩
    · exact p1.elim,
   grow_asg (grow_comp hi.g gt ge)⟩
end
/-! ### a def -/
def SpI (K : PySem.W.Frag) (cls : Cl) (f : Fn) : Sp := fun vs H Q E => ∃ φ h ws, Cells K cls φ h H ∧ VRs K φ h.length H ws vs ∧ Post K cls (rW K) φ h.length H E Q (f ws h)
theorem gc_grows {h : Hs} {r : Res PF.W} (g : grows h.length r) : grows h.length (gc h r) := by
  unfold gc
  have le : ∀ {h' : Hs}, h.length ≤ h'.length → h.length ≤ (h'.take h.length).length := fun {h'} l => by rw [List.length_take]; omega
  cases r with
  | ok w h' =>
    dsimp only
    split
    · split
      · exact le g
      · exact g
    · exact g
  | exc c p h' =>
    dsimp only
    split
    · exact le g
    · exact g
  | stuck => exact g
theorem gcL_grows {h : Hs} {r : Res PF.W} (g : grows h.length r) : grows h.length (gcL h r) := by
  unfold gcL
  split
  · split
    · split
      · split
        · unfold grows at g ⊢
          simp only [List.length_append, List.length_take]
          omega
        · exact g
      · exact g
    · exact g
  · exact gc_grows g
  · exact gc_grows g
  · exact g
/-! ### a list that nobody will change any more -/
inductive Lk (q : Hp → Prop) : Hp → Prop
  | done {H : Hp} : q H → Lk q H
  | lock {H : Hp} {d : Addr} {u : HO} : H d = some u → Mut (some u) → (∀ od, Lk q (upd H d (.frz od u))) → Lk q H
theorem Lk.bind {q : Hp → Prop} {H : Hp} (l : Lk (fun H => Lk q H) H) : Lk q H := by
  induction l with
  | done h => exact h
  | lock h mu _ ih => exact .lock h mu ih
theorem Lk.inv {X : Cx} {pins : List (Addr × Obj)} {σ : L2.St} {H : Hp} {s : Shared} {q : Hp → Prop} (I : Inv X pins σ H s) (l : Lk q H) : ∃ H', Inv X pins σ H' s ∧ q H' := by
  induction l with
  | done h => exact ⟨_, I, h⟩
  | lock h mu _ ih =>
    obtain ⟨od, I1⟩ := I.lock h mu
    exact ih od I1
theorem pe_lk {X : Cx} {e : Expr} {t : TE} (h : PE X e t) : PE X e (fun σ H Q => t σ H fun v H1 => Lk (Q v) H1) := by
  refine ⟨fun pins s σ H Q I hw => thn (h.run pins s σ H _ I hw) fun v s1 ⟨x, H1, I2, r, l⟩ => ?_⟩
  obtain ⟨H', I3, q⟩ := l.inv I2
  exact ⟨x, H', I3, r, q⟩
def lkD (D : Ends) : Ends := ⟨fun σ H => Lk (D.nx σ) H, fun v H => Lk (D.rt v) H, fun σ H => Lk (D.bk σ) H, fun σ H => Lk (D.ct σ) H⟩
theorem pss_lk {X : Cx} {b : List Stmt} {t : TS} (h : PSs X b t) : PSs X b (fun D σ H => t (lkD D) σ H) := by
  refine ⟨fun pins s σ H D I hw => thn (h.run pins s σ H _ I hw) fun f s1 q => ?_⟩
  cases f with
  | next => obtain ⟨σ', H', I2, q⟩ := q; obtain ⟨H2, I3, q⟩ := Lk.inv I2 q; exact ⟨σ', _, I3, q⟩
  | brk => obtain ⟨σ', H', I2, q⟩ := q; obtain ⟨H2, I3, q⟩ := Lk.inv I2 q; exact ⟨σ', _, I3, q⟩
  | cont => obtain ⟨σ', H', I2, q⟩ := q; obtain ⟨H2, I3, q⟩ := Lk.inv I2 q; exact ⟨σ', _, I3, q⟩
  | ret v => obtain ⟨x, σ', H', I2, r, q⟩ := q; obtain ⟨H2, I3, q⟩ := Lk.inv I2 q; exact ⟨x, σ', _, I3, r, q⟩
structure LkR (φ : Phi) (sk : Nat → Bool) (n m : Nat) (H H2 : Hp) : Prop where
  out : ∀ p, (∀ i, n ≤ i → i < m → sk i = false → φ i ≠ p) → H2 p = H p
  lst : ∀ i, n ≤ i → i < m → sk i = false → ∀ vs, H (φ i) = some (.lst vs) → ∃ od, H2 (φ i) = some (.frz od (.lst vs))
  oth : ∀ p, (∀ vs, H p ≠ some (.lst vs)) → H2 p = H p
section
variable {K : PySem.W.Frag} {cls : Cl} {φ : Phi} {h : Hs} {H H2 : Hp} {sk : Nat → Bool} {n m : Nat}
theorem lock_range (C : Cells K cls φ h H) (sk : Nat → Bool) (n : Nat) : ∀ (m : Nat) (q : Hp → Prop), m ≤ h.length → n ≤ m → (∀ H2, LkR φ sk n m H H2 → q H2) → Lk q H
  | 0, q, _, l, hq => .done (hq H ⟨fun _ _ => rfl, fun i a b => absurd b (by omega), fun _ _ => rfl⟩)
  | m + 1, q, hm, l, hq => by
    by_cases e : n = m + 1
    · exact .done (hq H ⟨fun _ _ => rfl, fun i a b => absurd b (by omega), fun _ _ => rfl⟩)
    refine Lk.bind (lock_range C sk n m _ (by omega) (by omega) fun H1 R => ?_)
    have same : H1 (φ m) = H (φ m) := R.out _ fun i a b _ z => by
      have := C.inj i m (by omega) (by omega) z
      omega
    have ne : ∀ i, i < m → φ i ≠ φ m := fun i a z => by
      have := C.inj i m (by omega) (by omega) z
      omega
    by_cases s : sk m = true
    · refine .done (hq H1 ⟨fun p hp => R.out p fun i a b => hp i a (by omega), fun i a b z vs hv => ?_, R.oth⟩)
      have : i ≠ m := fun y => by rw [y, s] at z; cases z
      exact R.lst i a (by omega) z vs hv
    · by_cases hl : ∃ vs, H (φ m) = some (.lst vs)
      · obtain ⟨vs, hv⟩ := hl
        refine .lock (same.trans hv) trivial fun od => .done (hq _ ⟨fun p hp => ?_, fun i a b z us hu => ?_, fun p hp => ?_⟩)
        · rw [upd_ne (hp m (by omega) (by omega) (by simpa using s)).symm]
          exact R.out p fun i a b => hp i a (by omega)
        · by_cases y : i = m
          · subst y
            rw [hv] at hu
            cases hu
            exact ⟨od, upd_same⟩
          · rw [upd_ne (ne i (by omega))]
            exact R.lst i a (by omega) z us hu
        · rw [upd_ne (fun z => hp vs (by rw [z]; exact hv))]
          exact R.oth p hp
      · refine .done (hq H1 ⟨fun p hp => R.out p fun i a b => hp i a (by omega), fun i a b z vs hv => ?_, R.oth⟩)
        by_cases y : i = m
        · subst y
          exact absurd ⟨vs, hv⟩ hl
        · exact R.lst i a (by omega) z vs hv
theorem LkR.keep (L : LkR φ sk n m H H2) : Keep H H2 := fun p o i hp => by
  rw [L.oth p fun vs z => by rw [hp] at z; cases z; exact i]
  exact hp
theorem mapO_vrs {f : PF.W → Option PF.W} {φ1 φ2 : Phi} {n1 n2 : Nat} {H1 H2 : Hp} (hf : ∀ w w' v, f w = some w' → VR K φ1 n1 H1 w v → VR K φ2 n2 H2 w' v) :
    ∀ {ws ws' : List PF.W} {vs : List V}, mapO f ws = some ws' → VRs K φ1 n1 H1 ws vs → VRs K φ2 n2 H2 ws' vs
  | [], _, _, e, .nil => by cases e; exact .nil
  | w :: ws, _, _, e, .cons r t => by
    rw [mapO] at e
    obtain ⟨b, e1, e⟩ := Option.bind_eq_some_iff.mp e
    obtain ⟨bs, e2, e⟩ := Option.bind_eq_some_iff.mp e
    cases e
    exact .cons (hf _ _ _ e1 r) (mapO_vrs hf e2 t)
theorem mapO_len {α β : Type} {f : α → Option β} : ∀ {ws : List α} {ws' : List β}, mapO f ws = some ws' → ws'.length = ws.length
  | [], _, e => by cases e; rfl
  | w :: ws, _, e => by
    rw [mapO] at e
    obtain ⟨b, e1, e⟩ := Option.bind_eq_some_iff.mp e
    obtain ⟨bs, e2, e⟩ := Option.bind_eq_some_iff.mp e
    cases e
    rw [List.length_cons, List.length_cons, mapO_len e2]
theorem fz_vr {hx : Hs} (C : Cells K cls φ h H) (L : LkR φ sk n h.length H H2) (hs : ∀ i ws, hx[i]? = some (.lst ws) → h[i]? = some (.lst ws) ∧ sk i = false) :
    ∀ (d : Nat) (w w' : PF.W) (v : V), fzW hx n d w = some w' → VR K φ h.length H w v → VR K φ n H2 w' v
  | 0, w, w', v, e, r => by
    unfold fzW at e
    split at e
    · rename_i hp
      cases e
      exact (r.mono (Ext.refl _ _) (Nat.le_refl _) L.keep).cut (fun _ _ => rfl) rfl (Bd.pure hp)
    · split at e
      · split at e
        · rename_i i hi
          cases e
          cases r
          exact .ref hi
        · cases e
      · cases e
  | d + 1, w, w', v, e, r => by
    unfold fzW at e
    split at e
    · rename_i hp
      cases e
      exact (r.mono (Ext.refl _ _) (Nat.le_refl _) L.keep).cut (fun _ _ => rfl) rfl (Bd.pure hp)
    · split at e
      · rename_i i _
        split at e
        · rename_i hi
          cases e
          cases r
          exact .ref hi
        · rename_i hi
          split at e
          · rename_i ws ei
            obtain ⟨ws', e1, e2⟩ := Option.map_eq_some_iff.mp e
            subst e2
            obtain ⟨e3, e4⟩ := hs i ws ei
            have hl : i < h.length := (List.getElem?_eq_some_iff.mp e3).1
            obtain ⟨vs, hv, rv⟩ := C.cell i _ e3
            obtain ⟨od, ho⟩ := L.lst i (by omega) hl e4 vs hv
            cases r
            exact .fl (.inl ⟨od, ho⟩) (mapO_vrs (fz_vr C L hs d) e1 rv)
          · cases e
      · obtain ⟨ws', e1, e2⟩ := Option.map_eq_some_iff.mp e
        subst e2
        cases r with
        | tup q t => exact .tup (L.keep.tup q) (mapO_vrs (fz_vr C L hs d) e1 t)
      · obtain ⟨ws', e1, e2⟩ := Option.map_eq_some_iff.mp e
        subst e2
        cases r with
        | fl q t => exact .fl (L.keep.fl q) (mapO_vrs (fz_vr C L hs d) e1 t)
      · obtain ⟨ws', e1, e2⟩ := Option.map_eq_some_iff.mp e
        subst e2
        cases r with
        | obj q a b t => exact .obj (L.keep _ _ b q) a b (mapO_vrs (fz_vr C L hs d) e1 t)
      · cases e
end
theorem pr_less {K : PySem.W.Frag} {φ φ' : Phi} {n n' : Nat} {H : Hp} {p : Pay} {d : Option Addr} (hf : ∀ i, i < n' → φ' i = φ i) (hc : φ'.c = φ.c) (r : PR K φ n H p d) (hp : p.pure = true) : PR K φ' n' H p d := by
  cases p with
  | none => exact r
  | some q =>
    obtain ⟨f, w⟩ := q
    obtain ⟨a, v, h1, h2, h3⟩ := r
    exact ⟨a, v, h1, h2, h3.cut hf hc (Bd.pure hp)⟩
theorem take_len {h h' : Hs} (t : tame h h' = true) : (h'.take h.length).length = h.length := by
  have := (tame_of t).1
  rw [List.length_take]
  omega
/-- the store ahead, when lists behind it have been locked -/
theorem less_lk {K : PySem.W.Frag} {cls : Cl} {φ φ' : Phi} {h h' : Hs} {H0 H H2 : Hp} {sk : Nat → Bool} (su : cls.su = none) (C0 : Cells K cls φ h H0) (C : Cells K cls φ' h' H) (t : tame h h' = true) (L : LkR φ' sk h.length h'.length H H2) : Cells K cls φ' (h'.take h.length) H2 := by
  have C1 := Cells.less C C0 (C0.noe.trans su) (cls' := cls) (φ'' := φ') rfl (fun _ _ => rfl) rfl C.noe t
  have len := take_len t
  have hl := (tame_of t).1
  refine ⟨C1.inj, C1.noe, C1.nof, fun i c hc => CR.heap L.keep ?_ (C1.cell i c hc)⟩
  have hi : i < h.length := by have := (List.getElem?_eq_some_iff.mp hc).1; omega
  exact L.out _ fun j a b _ z => by
    have := C.inj j i (by omega) (by omega) z
    omega
theorem gc_post {K : PySem.W.Frag} {cls : Cl} {φ : Phi} {h : Hs} {H : Hp} {E : XK} {Q : VK} {r : Res PF.W} (su : cls.su = none) (C : Cells K cls φ h H) (p : Post K cls (rW K) φ h.length H E Q (gc h r)) : Post K cls (rW K) φ h.length H E (fun v H' => Lk (Q v) H') r := by
  have dn : Post K cls (rW K) φ h.length H E Q r → Post K cls (rW K) φ h.length H E (fun v H' => Lk (Q v) H') r := fun p => p.mono fun v H' q => .done q
  cases r with
  | ok w h' =>
    unfold gc at p
    dsimp only at p
    split at p
    · rename_i t
      split at p
      · rename_i w' ew
        intro φ' v H' e k C' r
        refine lock_range C' (fun _ => false) h.length h'.length _ (Nat.le_refl _) (tame_of t).1 fun H2 L => ?_
        refine p φ' v H2 e (k.trans L.keep) (less_lk su C C' t L) ?_
        rw [take_len t]
        exact fz_vr C' L (fun i ws z => ⟨z, rfl⟩) 60 w w' v ew r
      · exact dn p
    · exact dn p
  | exc c y h' =>
    unfold gc at p
    dsimp only at p
    split at p
    · rename_i t
      intro φ' d H' e k C' r
      exact p φ' d H' e k (Cells.less C' C (C.noe.trans su) rfl (fun _ _ => rfl) rfl C'.noe t.1) (pr_less (fun _ _ => rfl) rfl r t.2)
    · exact p
  | stuck => exact p
theorem gcL_post {K : PySem.W.Frag} {cls : Cl} {φ : Phi} {h : Hs} {H : Hp} {E : XK} {Q : VK} {r : Res PF.W} (su : cls.su = none) (C : Cells K cls φ h H) (p : Post K cls (rW K) φ h.length H E Q (gcL h r)) : Post K cls (rW K) φ h.length H E (fun v H' => Lk (Q v) H') r := by
  have dn : ∀ r, Post K cls (rW K) φ h.length H E Q r → Post K cls (rW K) φ h.length H E (fun v H' => Lk (Q v) H') r := fun r p => p.mono fun v H' q => .done q
  unfold gcL at p
  split at p
  · rename_i i h'
    split at p
    · rename_i t
      obtain ⟨t, hi⟩ := t
      split at p
      · rename_i ws ei
        split at p
        · rename_i ws' em
          intro φ' v H' e k C' r
          have r' : VR K φ' h'.length H' (.ref i) v := r
          cases r' with
          | ref hi2 =>
            obtain ⟨vs, hv1, hv2⟩ := C'.cell i _ ei
            refine lock_range C' (fun j => decide (j = i)) h.length h'.length _ (Nat.le_refl _) (tame_of t).1 fun H2 L => ?_
            have C1 := less_lk su C C' t L
            have len := take_len t
            have hl := (tame_of t).1
            have q0 : VRs K φ' h.length H2 ws' vs := mapO_vrs (fz_vr C' L (fun j us z => by
              rw [List.getElem?_set] at z
              by_cases y : i = j
              · rw [if_pos y] at z
                split at z <;> cases z
              · rw [if_neg y] at z
                exact ⟨z, decide_eq_false fun x => y x.symm⟩) 60) em hv2
            have same : H2 (φ' i) = some (.lst vs) := by
              rw [L.out _ fun j a b c z => ?_]
              · exact hv1
              · have := C'.inj j i (by omega) (by omega) z
                rw [this] at c
                simp at c
            have e2 : Ext φ (PF.put φ' h.length (φ' i)) h.length := Ext.trans e (put_ext _ _ _) (Nat.le_refl _)
            have hlt : ∀ a, a < h.length → PF.put φ' h.length (φ' i) a = φ' a := fun a ha => (put_ext _ _ _).ix a ha
            have hne : ∀ a, a < h.length → φ' a ≠ φ' i := fun a ha z => by
              have := C'.inj a i (by omega) (by omega) z
              omega
            refine p (PF.put φ' h.length (φ' i)) _ H2 e2 (k.trans L.keep) ⟨fun a b ha hb ee => ?_, C'.noe, C'.nof, fun a c hc => ?_⟩ ?_
            · rw [List.length_append, len, List.length_singleton] at ha hb
              by_cases e1 : a = h.length
              · by_cases e2 : b = h.length
                · rw [e1, e2]
                · rw [e1, put_at, hlt b (by omega)] at ee
                  exact absurd ee.symm (hne b (by omega))
              · by_cases e2 : b = h.length
                · rw [e2, put_at, hlt a (by omega)] at ee
                  exact absurd ee (hne a (by omega))
                · rw [hlt a (by omega), hlt b (by omega)] at ee
                  exact C1.inj a b (by omega) (by omega) ee
            · rw [List.length_append, len, List.length_singleton]
              by_cases ha : a < h.length
              · rw [List.getElem?_append_left (by omega)] at hc
                have := C1.cell a c hc
                rw [len] at this
                exact this.mono (put_ext _ _ _) (Nat.le_succ _) (Keep.refl _) (hlt a ha) fun _ z => z
              · rw [List.getElem?_append_right (by omega), len] at hc
                have e1 : a - h.length = 0 := by
                  rcases Nat.eq_zero_or_pos (a - h.length) with z | z
                  · exact z
                  · rw [List.getElem?_eq_none (by rw [List.length_singleton]; omega)] at hc
                    cases hc
                rw [e1] at hc
                cases hc
                have e2 : a = h.length := by omega
                rw [e2, put_at]
                exact ⟨vs, same, VRs.mono (put_ext _ _ _) (Nat.le_succ _) (Keep.refl _) q0⟩
            · have ee : V.ref (φ' i) = .ref (PF.put φ' h.length (φ' i) h.length) := by rw [put_at]
              rw [ee]
              refine .ref ?_
              rw [List.length_append, len, List.length_singleton]
              exact Nat.lt_succ_self _
        · exact dn _ p
      · exact dn _ p
    · exact dn _ p
  · exact gc_post su C p
  · exact gc_post su C p
  · exact p
/-- an expression whose new lists become values -/
theorem re_gz {X : Cx} {cls : Cl} {W : WX} {e : Expr} {d : PF.D} (su : cls.su = none) (he : RE X cls W e d) : RE X cls W e (dGz d) :=
  ⟨(pe_lk he.pe).imp fun σ H Q t => t.ok fun φ h ρ x p => ⟨φ, h, ρ, x, gc_post su x.C p⟩, fun ρ h => gc_grows (he.g ρ h)⟩
theorem gr_gz {d : PF.D} (g : Grow d) : Grow (dGz d) := fun ρ h => gc_grows (g ρ h)
section
variable {P : Program} {w : World} {K : PySem.W.Frag} {mg : PySem.Str → Option Value} {base : Heap}
theorem grow_mk {ps n : Nat} {b : Sm} (gb : GrowS b) : GrC (mkF ps n b) := fun ws h => by
  unfold mkF
  split
  · have g := gb (ws.map some ++ List.replicate (n - ps) none) h
    revert g
    cases b (ws.map some ++ List.replicate (n - ps) none) h with
    | nx ρ h1 => exact fun g => g
    | ret w h1 => exact fun g => g
    | exc c p ρ h1 => exact fun g => g
    | _ => exact fun _ => trivial
  · trivial
theorem grow_def {ps n : Nat} {b : Sm} (gb : GrowS b) : GrC (defF ps n b) := fun ws h => gc_grows (grow_mk gb ws h)
theorem grow_defL {ps n : Nat} {b : Sm} (gb : GrowS b) : GrC (defL ps n b) := fun ws h => gcL_grows (grow_mk gb ws h)
/-- what is left of a def's answer -/
def EndOK (K : PySem.W.Frag) (cls : Cl) (en : Hs → Res PF.W → Res PF.W) : Prop := (∀ h, en h .stuck = .stuck) ∧ ∀ (φ : Phi) (h : Hs) (H : Hp) (E : XK) (Q : VK) (r : Res PF.W), Cells K cls φ h H → Post K cls (rW K) φ h.length H E Q (en h r) → Post K cls (rW K) φ h.length H E (fun v H' => Lk (Q v) H') r
theorem end_gc {K : PySem.W.Frag} {cls : Cl} (su : cls.su = none) : EndOK K cls gc := ⟨fun _ => rfl, fun _ _ _ _ _ _ C p => gc_post su C p⟩
theorem end_gcL {K : PySem.W.Frag} {cls : Cl} (su : cls.su = none) : EndOK K cls gcL := ⟨fun _ => rfl, fun _ _ _ _ _ _ C p => gcL_post su C p⟩
theorem end_id {K : PySem.W.Frag} {cls : Cl} : EndOK K cls (fun _ r => r) := ⟨fun _ => rfl, fun _ _ _ _ _ _ _ p => p.mono fun v H' q => .done q⟩
/-- a def, with defaults or without -/
structure FunX (K : PySem.W.Frag) (x qual : PySem.Str) (st : Stmt) (f : Addr) (fd : FuncData) : Prop where
  okX : ∀ {P : Program} {w : World} {mg : PySem.Str → Option Value} {base : Heap} {N ps : List PySem.Str} {k : Nat} {sp : Sp}, FnScope N ps (defScope st) → (∀ vs H Q E, sp vs H Q E → vs.length = ps.length) →
    (∀ (cdv : Value) (A : Around) (outer : List PySem.Env) (s : Shared) (H : Hp) (vs : List V) (Q : VK) (E : XK), Room k (A.deeper (envOfC qual (defScope st) s.heap.objs.size f cdv)) → sp vs H Q E →
      ∃ t, PSs (cxOf (L2.CX P w) P w K mg base N qual (defScope st) f cdv A outer s H E) (defBody st) t ∧ t { nx := fun _ H' => Q V.non H', rt := Q } (L2.start N vs) H) → FnOk P w K mg base (L2.CX P w) (k + 1) f fd ps sp
  kp : PySem.W.keepIn K (.ref f) = true
theorem FunX.of {K : PySem.W.Frag} {x qual : PySem.Str} {st : Stmt} {f : Addr} {fd : FuncData} (F : Fun K x qual st f fd) : FunX K x qual st f fd := ⟨fun S len hb => F.okX S len hb, F.kp⟩
theorem FunX.ofD {K : PySem.W.Frag} {x qual : PySem.Str} {st : Stmt} {f : Addr} {fd : FuncData} {dvs : List V} {kws : List (PySem.Str × V)} (F : FunD K x qual (defArgs st) (defBody st) (defScope st) dvs kws f fd) : FunX K x qual st f fd := ⟨fun S len hb => F.ok S len hb, F.kp⟩
theorem bindsD {K : PySem.W.Frag} {x qual : PySem.Str} {params : Arguments} {body : List Stmt} {scope : Scope} {dvs : List V} {f : Addr} {fd : FuncData} {ps : List PySem.Str} (F : FunD K x qual params body scope dvs [] f fd) (hne : dvs ≠ [])
    (h : ∀ (T : Addr) (kV doc pm : Value) (an : Option Addr) (cdv ct : Value) (us its : List Value), us.length = ps.length → its.length = dvs.length → ∃ k, bindArgs (PySem.W.fnOf x qual params body scope (Value.ref T) kV doc pm an cdv ct) { pos := us } = seqItems? (Value.ref T) >>= k ∧ k (some its.toArray) = pure (ps.zip us)) : Binds K fd ps [] := by
  obtain ⟨ds, hv, hb⟩ := F.binds1 (ps := ps) ps.length dvs.length hne (by simp) fun T kV doc pm an cdv ct us its hu hi => by
    obtain ⟨k, e1, e2⟩ := h T kV doc pm an cdv ct us its hu hi
    exact ⟨k, e1, by rw [← hi, List.drop_length, List.append_nil]; exact e2⟩
  rw [List.drop_length] at hv
  cases hv
  exact hb
/-- a def keeps its reckoning -/
theorem fn_ok {x qual : PySem.Str} {st : Stmt} {f : Addr} {fd : FuncData} {N ps : List PySem.Str} {k : Nat} {cls : Cl} {b : Sm} {en : Hs → Res PF.W → Res PF.W} (F : FunX K x qual st f fd) (S : FnScope N ps (defScope st)) (ee : EndOK K cls en) (hle : ps.length ≤ N.length)
    (hbody : ∀ (cdv : Value) (A : Around) (outer : List PySem.Env) (s : Shared) (H : Hp) (E : XK), Room k (A.deeper (envOfC qual (defScope st) s.heap.objs.size f cdv)) →
      RSs (cxOf (L2.CX P w) P w K mg base N qual (defScope st) f cdv A outer s H E) cls (fun cls d _ H => E cls d H) (defBody st) b) : FnOk P w K mg base (L2.CX P w) (k + 1) f fd ps (SpI K cls fun ws h => en h (mkF ps.length N.length b ws h)) := by
  have len : ∀ vs H Q E, SpI K cls (fun ws h => en h (mkF ps.length N.length b ws h)) vs H Q E → vs.length = ps.length := fun vs H Q E ⟨φ, h, ws, C, r, p⟩ => by
    by_cases hl : ws.length = ps.length
    · rw [← r.length, hl]
    · unfold mkF at p
      dsimp only at p
      rw [if_neg hl, ee.1] at p
      exact p.elim
  refine F.okX S len fun cdv A outer s H vs Q E hr q => ?_
  have hl := len _ _ _ _ q
  obtain ⟨φ, h, ws, C, r, p⟩ := q
  refine ⟨_, pss_lk (hbody cdv A outer s H E hr).ps, ?_⟩
  have p' := ee.2 _ _ _ _ _ _ C p
  unfold mkF at p'
  rw [if_pos (by rw [r.length, hl])] at p'
  refine ⟨φ, h, ws.map some ++ List.replicate (N.length - ps.length) none, ⟨C, ?_⟩, ?_⟩
  · refine ⟨?_, fun i w hw => ?_⟩
    · unfold L2.start
      rw [List.length_append, List.length_append, List.length_map, List.length_map, List.length_replicate, List.length_replicate, r.length, hl]
    · unfold L2.start
      by_cases hi : i < ws.length
      · rw [List.getElem?_append_left (by rw [List.length_map]; exact hi), List.getElem?_map] at hw
        cases hw2 : ws[i]? with
        | none => rw [hw2] at hw; cases hw
        | some w' =>
          rw [hw2] at hw
          cases hw
          obtain ⟨v, hv, rv⟩ := r.get hw2
          refine ⟨v, ?_, rv⟩
          rw [List.getElem?_append_left (by rw [List.length_map, ← r.length]; exact hi), List.getElem?_map, hv]
          rfl
      · rw [List.getElem?_append_right (by rw [List.length_map]; omega), List.getElem?_replicate] at hw
        split at hw <;> cases hw
  · revert p'
    cases b (ws.map some ++ List.replicate (N.length - ps.length) none) h with
    | nx ρ1 h1 => exact fun p φ' σ' H' e k x => p φ' .non H' e k x.C .non
    | ret w1 h1 => exact fun p φ' v H' e k C r => p φ' v H' e k C r
    | exc c y ρ1 h1 => exact fun p φ' d σ' H' e k x r => p φ' d H' e k x.C r
    | _ => exact fun p => p.elim
end
section
variable {X : Cx} {cls : Cl} {W : WX}
theorem re_call {k : Nat} {f : Addr} {fd : FuncData} {ps : List PySem.Str} {fn : Fn} {x : PySem.Str} {p pos : Pos} {e : Expr} {es : List Expr} {as : As} (F : FnOk X.prog X.w X.K X.mg X.base (L2.CX X.prog X.w) k f fd ps (SpI X.K cls fn)) (gf : GrC fn) (tk : Takes X W) (hr : Room k X.A)
    (hg : Gl X x) (hm : X.mg x = some (.ref f)) (hk : PySem.W.keepIn X.K (.ref f) = true) (hb : Binds X.K fd ps []) (ha : RA X cls W (e :: es) as) (hdb : (x == ("__debug__" : PySem.Str)) = false := by decide)
    (he : starEach (e :: es) X.env = (false, eval e X.env) :: starEach es X.env := by rfl) (hpl : (backTo pos (starEach es X.env)).any (·.1) = false := by rfl) : RE X cls W (.Call (.Name x p) (e :: es) [] pos) (dCall fn as) := by
  refine ⟨(pe_callS F hr hg hm hk hb (fun σ => passAt tk σ) ha.pa hdb he hpl).imp fun σ H Q t => t.ok fun φ h ρ x p => ?_, grow_call gf ha.g⟩
  exact x.first (ha.g ρ h) p fun vs H1 φ1 ws h1 g1 x1 p1 => ⟨φ1, h1, ws, g1.C, g1.r, p1⟩
end
section
variable {X : Cx} {cls : Cl} {W : WX}
theorem ps_lk {X : Cx} {b : Stmt} {t : TS} (h : PS X b t) : PS X b (fun D σ H => t (lkD D) σ H) := by
  refine ⟨fun pins s σ H D I hw => thn (h.run pins s σ H _ I hw) fun f s1 q => ?_⟩
  cases f with
  | next => obtain ⟨σ', H', I2, q⟩ := q; obtain ⟨H2, I3, q⟩ := Lk.inv I2 q; exact ⟨σ', _, I3, q⟩
  | brk => obtain ⟨σ', H', I2, q⟩ := q; obtain ⟨H2, I3, q⟩ := Lk.inv I2 q; exact ⟨σ', _, I3, q⟩
  | cont => obtain ⟨σ', H', I2, q⟩ := q; obtain ⟨H2, I3, q⟩ := Lk.inv I2 q; exact ⟨σ', _, I3, q⟩
  | ret v => obtain ⟨x, σ', H', I2, r, q⟩ := q; obtain ⟨H2, I3, q⟩ := Lk.inv I2 q; exact ⟨x, σ', _, I3, r, q⟩
/-- x = e, the list made becomes a value -/
theorem rs_gzN {st : Stmt} {d : PF.D} {i : Nat} (su : cls.su = none) (hs : RS X cls W st (sAsg d (.n i))) (gd : Grow d) : RS X cls W st (sAsg (dGz d) (.n i)) := by
  refine ⟨(ps_lk hs.ps).imp fun D σ H t => t.ok fun φ h ρ x p => ⟨φ, h, ρ, x, ?_⟩, grow_asg (gr_gz gd)⟩
  have he : φ.e = none := x.C.noe.trans su
  have bd : ∀ (j : Nat) (u : PF.W), ρ[j]? = some (some u) → Bd h.length u := fun j u hu => by
    obtain ⟨v, _, r⟩ := x.S.2 j u hu
    exact r.bd he
  unfold sAsg dGz at p
  unfold sAsg
  cases hd : d ρ h with
  | stuck => rw [hd] at p; exact p.elim
  | exc c y h' =>
    rw [hd] at p
    intro φ' dd σ' H' e k x' r
    unfold gc at p
    dsimp only at p
    split at p
    · rename_i t
      refine p φ' dd σ' H' e k ⟨Cells.less x'.C x.C he rfl (fun _ _ => rfl) rfl x'.C.noe t.1, ?_⟩ (pr_less (fun _ _ => rfl) rfl r t.2)
      rw [take_len t.1]
      refine ⟨x'.S.1, fun j u hu => ?_⟩
      obtain ⟨v, hv, rv⟩ := x'.S.2 j u hu
      exact ⟨v, hv, rv.cut (fun _ _ => rfl) rfl (bd j u hu)⟩
    · exact p φ' dd σ' H' e k x' r
  | ok w h1 =>
    rw [hd] at p
    rw [onR_ok, Tg.run]
    by_cases hi : i < ρ.length
    · rw [if_pos hi, onO_some]
      intro φ' σ' H' e k x'
      unfold gc at p
      dsimp only at p
      split at p
      · rename_i t
        split at p
        · rename_i w' ew
          rw [onR_ok, Tg.run, if_pos hi, onO_some] at p
          refine lock_range x'.C (fun _ => false) h.length h1.length _ (Nat.le_refl _) (tame_of t).1 fun H2 L => ?_
          refine p φ' σ' H2 e (k.trans L.keep) ⟨less_lk su x.C x'.C t L, ?_⟩
          rw [take_len t]
          refine ⟨by have := x'.S.1; rwa [List.length_set] at this ⊢, fun j u hu => ?_⟩
          rw [List.getElem?_set] at hu
          by_cases ij : i = j
          · rw [if_pos ij] at hu
            split at hu
            · cases hu
              obtain ⟨v, hv, rv⟩ := x'.S.2 j w (by rw [List.getElem?_set, if_pos ij, if_pos (by omega)])
              exact ⟨v, hv, fz_vr x'.C L (fun i ws z => ⟨z, rfl⟩) 60 w _ v ew rv⟩
            · rename_i z; exact absurd hi z
          · rw [if_neg ij] at hu
            obtain ⟨v, hv, rv⟩ := x'.S.2 j u (by rw [List.getElem?_set, if_neg ij]; exact hu)
            exact ⟨v, hv, (rv.cut (fun _ _ => rfl) rfl (bd j u hu)).mono (Ext.refl _ _) (Nat.le_refl _) L.keep⟩
        · rw [onR_ok, Tg.run, if_pos hi, onO_some] at p
          exact .done (p φ' σ' H' e k x')
      · rw [onR_ok, Tg.run, if_pos hi, onO_some] at p
        exact .done (p φ' σ' H' e k x')
    · have : (fun (w : PF.W) (h1 : Hs) => onO ((Tg.n i).run w ρ) fun ρ1 => Out.nx ρ1 h1) = fun _ _ => Out.stuck := by
        funext w h1
        rw [Tg.run, if_neg hi]
        rfl
      rw [this] at p
      unfold gc at p
      dsimp only at p
      split at p
      · split at p <;> exact p.elim
      · exact p.elim
end
end PF
namespace PF
open PySem PySem.Spec PyProof.Rows L2
section
variable {X : Cx} {cls : Cl}
theorem sS_app (a b : List Nat) : sS a ++ sS b = sS (a ++ b) := by
  show PySem.Str.append (sS a) (sS b) = sS (a ++ b)
  unfold PySem.Str.append sS
  simp
theorem sS_len (a : List Nat) : (sS a).length = a.length := by
  unfold PySem.Str.length sS
  simp
theorem sS_inj {a b : List Nat} (h : sS a = sS b) : a = b := by
  unfold sS at h
  simpa using h
theorem okS_app {a b : List Nat} (ha : okS a) (hb : okS b) : okS (a ++ b) := fun c hc => (List.mem_append.mp hc).elim (ha c) (hb c)
theorem rO_ok {K : PySem.W.Frag} {φ : Phi} {h : Hs} {H : Hp} {E : XK} {Q : VK} {w : PF.W} {v : V} (C : Cells K cls φ h H) (p : Post K cls (rW K) φ h.length H E Q (.ok w h)) (r : VR K φ h.length H w v) : Q v H := p φ v H (Ext.refl _ _) (Keep.refl _) C r
/-! ### lists put together, locked ones too -/
theorem meets_catW (l b : Addr) (xs ys : Array Value) (n m : Nat) (sl tl : Array (Option Value)) (hz : xs.size + ys.size ≤ sizeLine) :
    Meets (Builtin.«list.__add__» ⟨[.ref l, .ref b], []⟩) (fun _ R s => s.heap.get? l = some ⟨.type "list", none, .seq xs n, sl⟩ ∧ s.heap.get? b = some ⟨.type "list", none, .seq ys m, tl⟩ ∧ R (.ok (.ret (.ref s.heap.objs.size))) { s with heap := s.heap.push { cls := .type "list", data := .seq (xs ++ ys) } }) := by
  refine .of_wp fun prog w A R s q => ?_
  obtain ⟨hp, gg, dr, tk, os⟩ := s
  obtain ⟨e1, e2, q⟩ := q
  have f3 := AutoSeq1.sub_list_list
  wp_walk using AutoSeq1.wpAny_loadPart' e1, AutoSeq1.wpAny_loadPart' e2
  exact ⟨_, rfl, q⟩
theorem meets_extW (l b : Addr) (xs ys : Array Value) (n m : Nat) (tl : Array (Option Value)) (hz : xs.size + ys.size ≤ sizeLine) (h0 : ¬ (!xs.isEmpty && Builtin.List.listTooLong (xs.size + ys.size)) = true) (h1 : xs.size ≤ sizeLine) :
    Meets (Builtin.«list.extend» ⟨[.ref l, .ref b], []⟩) (fun _ R s => s.heap.get? l = some ⟨.type "list", none, .seq xs n, #[]⟩ ∧ s.heap.get? b = some ⟨.type "list", none, .seq ys m, tl⟩ ∧ R (.ok (.ret .none)) { s with heap := s.heap.update l (Obj.mapSeq fun x => x ++ ys) }) := by
  refine .of_wp fun prog w A R s q => ?_
  obtain ⟨hp, gg, dr, tk, os⟩ := s
  obtain ⟨e1, e2, q⟩ := q
  have f3 := AutoSeq1.sub_list_list
  have f4 := AutoSeq1.sub_list_tuple
  have hz2 : (xs ++ ys).size ≤ sizeLine + 1 := by rw [Array.size_append]; omega
  wp_walk using (wpAny_updateSeq e1 rfl (hz := h1) (_hz' := hz2)), AutoSeq1.wpAny_loadPart' e1, AutoSeq1.wpAny_loadPart' e2
  exact ⟨_, rfl, q⟩
theorem plain_obj {hp : Heap} {a : Addr} {its : Array Value} (p : PlainL hp a its) : ∃ n sl, hp.get? a = some ⟨.type "list", none, .seq its n, sl⟩ := by
  obtain ⟨o, n, e, h1, h2, h3⟩ := p
  obtain ⟨c, d, t, sl⟩ := o
  cases h1
  cases h2
  cases h3
  exact ⟨n, sl, e⟩
def rCatW (K : PySem.W.Frag) : R2 := fun x y H Q => ∃ l b xs zs, x = .ref l ∧ y = .ref b ∧ SqL K H l xs ∧ SqL K H b zs ∧ xs.length + zs.length ≤ sizeLine ∧ ∀ p, H p = none → Q (.ref p) (upd H p (.lst (xs ++ zs)))
theorem op_catW : OpR X (binaryOp .Add) (rCatW X.K) := by
  intro pins s σ H x y v u Q I rx ry h
  obtain ⟨l, b, xs, zs, rfl, rfl, hH, hB, hz, q⟩ := h
  cases rx
  cases ry
  obtain ⟨its, r, e, _⟩ := I.list hH
  obtain ⟨its2, r2, e2, _⟩ := I.list hB
  obtain ⟨n, sl, e⟩ := plain_obj e
  obtain ⟨n2, sl2, e2⟩ := plain_obj e2
  have hl := r.length
  have hl2 := r2.length
  refine concat_meets ⟨_, e, rfl⟩ ⟨_, e2, rfl⟩ noFill_list_add seq_list_add F.slot_list_add F.entry_list_add (F.args_list_add_2 _ _) (meets_catW l b its.toArray its2.toArray n n2 sl sl2 (by rw [List.size_toArray, List.size_toArray]; omega)) ⟨e, e2, ?_⟩
  have ea : its.toArray ++ its2.toArray = (its ++ its2).toArray := by simp
  rw [ea]
  exact ⟨.ref _, _, I.lnew (t' := s.toks) (r.append r2) (by rw [List.length_append]; omega), rfl, q _ I.fresh⟩
theorem o_add : OpR X (binaryOp .Add) (rO X.K cls oAdd) := by
  rintro pins s σ H x y v u Q I rx ry ⟨φ, h, w1, w2, E, C, r1, r2, p⟩
  unfold oAdd at p
  split at p
  · cases r1; cases r2
    exact op_add pins s σ H _ _ v u Q I rx ry ⟨_, _, rfl, rfl, rO_ok C p (.int _)⟩
  · split at p
    · rename_i hl
      cases r1 with
      | str a ha =>
        cases r2 with
        | str b hb =>
          refine op_add_str pins s σ H _ _ v u Q I rx ry ⟨_, _, rfl, rfl, ?_, ?_⟩
          · rw [sS_len, sS_len, ← bigL_eq]; exact hl
          · rw [sS_app]; exact rO_ok C p (.str _ (okS_app ha hb))
    · exact p.elim
  · split at p
    · rename_i a b e1 e2
      split at p
      · rename_i hl
        cases r1; cases r2
        obtain ⟨vs, h1, h2⟩ := C.cell _ _ e1
        obtain ⟨us, h3, h4⟩ := C.cell _ _ e2
        refine op_cat pins s σ H _ _ v u Q I rx ry ⟨_, _, vs, us, rfl, rfl, h1, h3, ?_, post_lst C (h2.append h4) p⟩
        rw [← h2.length, ← h4.length, ← bigL_eq]; exact hl
      · exact p.elim
    · exact p.elim
  · split at p
    · rename_i hl
      cases r1 with
      | fl q1 t1 =>
        cases r2 with
        | fl q2 t2 =>
          refine op_catW pins s σ H _ _ v u Q I rx ry ⟨_, _, _, _, rfl, rfl, q1.l, q2.l, ?_, post_lst C (t1.append t2) p⟩
          rw [← t1.length, ← t2.length, ← bigL_eq]; exact hl
    · exact p.elim
  · split at p
    · rename_i b e2
      split at p
      · rename_i hl
        cases r2
        obtain ⟨us, h3, h4⟩ := C.cell _ _ e2
        cases r1 with
        | fl q1 t1 =>
          refine op_catW pins s σ H _ _ v u Q I rx ry ⟨_, _, _, _, rfl, rfl, q1.l, .of h3, ?_, post_lst C (t1.append h4) p⟩
          rw [← t1.length, ← h4.length, ← bigL_eq]; exact hl
      · exact p.elim
    · exact p.elim
  · split at p
    · rename_i b e2
      split at p
      · rename_i hl
        cases r1
        obtain ⟨us, h3, h4⟩ := C.cell _ _ e2
        cases r2 with
        | fl q1 t1 =>
          refine op_catW pins s σ H _ _ v u Q I rx ry ⟨_, _, _, _, rfl, rfl, .of h3, q1.l, ?_, post_lst C (h4.append t1) p⟩
          rw [← t1.length, ← h4.length, ← bigL_eq]; exact hl
      · exact p.elim
    · exact p.elim
  · split at p
    · rename_i hl
      cases r1 with
      | tup q1 t1 =>
        cases r2 with
        | tup q2 t2 =>
          refine op_catT pins s σ H _ _ v u Q I rx ry ⟨_, _, _, _, rfl, rfl, q1, q2, ?_, ?_, ?_, ?_⟩
          · intro z; subst z; cases t1; exact hl.1 rfl
          · rw [← t1.length, ← t2.length, ← bigL_eq]; exact hl.2.2
          · intro z; subst z; cases t2; exact absurd rfl hl.2.1
          · exact fun _ => post_tup C (t1.append t2) p
    · exact p.elim
  · exact p.elim
theorem g_add : GrO oAdd := fun w u h => by
  have nl : ∀ ws : List PF.W, grows h.length (newL ws h) := fun ws => newL_grows ws h
  unfold oAdd
  split
  · exact Nat.le_refl _
  · split
    · exact Nat.le_refl _
    · trivial
  · split
    · split
      · exact nl _
      · trivial
    · trivial
  · split
    · exact nl _
    · trivial
  · split
    · split
      · exact nl _
      · trivial
    · trivial
  · split
    · split
      · exact nl _
      · trivial
    · trivial
  · split
    · exact Nat.le_refl _
    · trivial
  · trivial
theorem o_ints {f : Value → Value → Sem Value} {C0 : Int → Int → Prop} {g : Int → Int → V} {o : PF.W → PF.W → Hs → Res PF.W} (R : OpR X f (rI C0 g))
    (ho : ∀ (φ : Phi) (h : Hs) (H : Hp) (w u : PF.W) (E : XK) (Q : VK), Cells X.K cls φ h H → Post X.K cls (rW X.K) φ h.length H E Q (o w u h) → ∃ i j, w = .int i ∧ u = .int j ∧ C0 i j ∧ Q (g i j) H) : OpR X f (rO X.K cls o) := by
  rintro pins s σ H x y v u Q I rx ry ⟨φ, h, w1, w2, E, C, r1, r2, p⟩
  obtain ⟨i, j, rfl, rfl, hc, q⟩ := ho φ h H w1 w2 E Q C p
  cases r1; cases r2
  exact R pins s σ H _ _ v u Q I rx ry ⟨i, j, rfl, rfl, hc, q⟩
theorem o_ints0 {f : Value → Value → Sem Value} {g : Int → Int → V} {o : PF.W → PF.W → Hs → Res PF.W} (R : OpR X f (rI0 g))
    (ho : ∀ (φ : Phi) (h : Hs) (H : Hp) (w u : PF.W) (E : XK) (Q : VK), Cells X.K cls φ h H → Post X.K cls (rW X.K) φ h.length H E Q (o w u h) → ∃ i j, w = .int i ∧ u = .int j ∧ Q (g i j) H) : OpR X f (rO X.K cls o) := by
  rintro pins s σ H x y v u Q I rx ry ⟨φ, h, w1, w2, E, C, r1, r2, p⟩
  obtain ⟨i, j, rfl, rfl, q⟩ := ho φ h H w1 w2 E Q C p
  cases r1; cases r2
  exact R pins s σ H _ _ v u Q I rx ry ⟨i, j, rfl, rfl, q⟩
theorem o_sub : OpR X (binaryOp .Sub) (rO X.K cls oSub) := o_ints0 op_sub fun φ h H w u E Q C p => by
  unfold oSub at p
  split at p
  · exact ⟨_, _, rfl, rfl, rO_ok C p (.int _)⟩
  · exact p.elim
theorem g_sub : GrO oSub := fun w u h => by
  unfold oSub
  split <;> first | exact Nat.le_refl _ | trivial
theorem mulOK_int {i j : Int} (h : mulOK i j) : IntMulOk i j := by
  rcases h with h | h | h
  · exact CMulW.ok h
  · exact CMul.ok (.inl (by omega))
  · exact CMul.ok (.inr (by omega))
theorem rep_cps : ∀ (n : Nat) (s acc : List Nat), (List.replicate n s.toArray).foldl (· ++ ·) acc.toArray = (acc ++ (List.replicate n s).flatten).toArray
  | 0, s, acc => by simp
  | n + 1, s, acc => by
    rw [List.replicate_succ, List.replicate_succ, List.foldl_cons, List.flatten_cons, ← List.append_assoc, ← rep_cps n s (acc ++ s)]
    simp
theorem okS_rep (n : Nat) {s : List Nat} (o : okS s) : okS (List.replicate n s).flatten := fun c hc => by
  obtain ⟨l, hl, hc⟩ := List.mem_flatten.mp hc
  rw [(List.mem_replicate.mp hl).2] at hc
  exact o c hc
theorem o_mul : OpR X (binaryOp .Mult) (rO X.K cls oMul) := by
  rintro pins s σ H x y v u Q I rx ry ⟨φ, h, w1, w2, E, C, r1, r2, p⟩
  unfold oMul at p
  split at p
  · split at p
    · rename_i hc
      cases r1; cases r2
      have oi : OpR X (binaryOp .Mult) (rI mulOK fun i j => .int (i * j)) := opI fun _ _ _ _ _ _ _ hc q => mul_int q (mulOK_int hc)
      exact oi pins s σ H _ _ v u Q I rx ry ⟨_, _, rfl, rfl, hc, rO_ok C p (.int _)⟩
    · exact p.elim
  · rename_i z i
    split at p
    · rename_i hc
      cases r2
      cases r1 with
      | str _ ok =>
        obtain ⟨t, rfl⟩ := rx
        obtain ⟨t2, rfl⟩ := ry
        have q := rO_ok C p (.str _ (okS_rep i.toNat ok))
        have zl : (sS z).length = z.length := by simp [sS, PySem.Str.length]
        have mk : (⟨(List.replicate i.toNat (sS z).cps).foldl (· ++ ·) #[]⟩ : PySem.Str) = sS (List.replicate i.toNat z).flatten := by
          have := rep_cps i.toNat z []
          rw [List.nil_append] at this
          show (⟨(List.replicate i.toNat z.toArray).foldl (· ++ ·) #[]⟩ : PySem.Str) = _
          rw [this]; rfl
        have hb : (sS z).length * i.toNat ≤ 1000000 := by
          rw [zl]
          exact Nat.mul_le_mul (show z.length ≤ 1000 from hc.2.2) (show i.toNat ≤ 1000 by omega)
        refine PySem.P.mul_str (by rw [decide_eq_false (by omega), decide_eq_false (by omega)]; rfl) (fun _ _ => ?_) (fun _ _ => PyProof.Rows.short24 (by omega)) ?_
        · have h1 : (2 : Int) ^ 53 ≤ (2 ^ 63 - 1) / i := (Int.le_ediv_iff_mul_le (by omega)).mpr (by omega)
          have h2 : (((sS z).length : Nat) : Int) ≤ 1000 := by rw [zl]; omega
          omega
        · rw [if_neg (by omega)]
          split
          · rename_i e
            have e2 : (List.replicate i.toNat z).flatten = z := by
              rcases Bool.or_eq_true _ _ |>.mp e with e | e
              · have : i = 1 := by simpa using e
                rw [this]
                simp
              · have e3 : z.length = 0 := by rw [← zl]; simpa using e
                rw [List.length_eq_zero_iff.mp e3]
                simp
            rw [e2] at q
            exact ⟨.str (sS z), H, I, ⟨_, rfl⟩, q⟩
          · rw [mk]
            have hn : (sS (List.replicate i.toNat z).flatten).length ≤ sizeLine := by
              have : (sS (List.replicate i.toNat z).flatten).length = i.toNat * z.length := by simp [sS, PySem.Str.length]
              rw [this, Nat.mul_comm, ← zl, sizeLine_eq]
              omega
            exact ⟨hn, .str (sS (List.replicate i.toNat z).flatten), H, I.tok _, ⟨_, rfl⟩, q⟩
    · exact p.elim
  · exact p.elim
theorem g_mul : GrO oMul := fun w u h => by
  unfold oMul
  split
  · split <;> first | exact Nat.le_refl _ | trivial
  · split <;> first | exact Nat.le_refl _ | trivial
  · trivial
theorem o_div : OpR X (binaryOp .FloorDiv) (rO X.K cls oDiv) := o_ints (C0 := divOK) (g := fun i j => .int (i.fdiv j)) (opI fun _ _ _ _ _ _ _ hc q => floordiv_int hc.1 q (.inl hc.2)) fun φ h H w u E Q C p => by
  unfold oDiv at p
  split at p
  · split at p
    · rename_i hc
      exact ⟨_, _, rfl, rfl, hc, rO_ok C p (.int _)⟩
    · exact p.elim
  · exact p.elim
theorem g_div : GrO oDiv := fun w u h => by
  unfold oDiv
  split
  · split <;> first | exact Nat.le_refl _ | trivial
  · trivial
theorem o_mod : OpR X (binaryOp .Mod) (rO X.K cls oMod) := o_ints op_modN fun φ h H w u E Q C p => by
  unfold oMod at p
  split at p
  · split at p
    · rename_i hc
      exact ⟨_, _, rfl, rfl, hc, rO_ok C p (.int _)⟩
    · exact p.elim
  · exact p.elim
theorem g_mod : GrO oMod := fun w u h => by
  unfold oMod
  split
  · split <;> first | exact Nat.le_refl _ | trivial
  · trivial
theorem o_pow : OpR X (binaryOp .Pow) (rO X.K cls oPow) := o_ints op_pow fun φ h H w u E Q C p => by
  unfold oPow at p
  split at p
  · split at p
    · rename_i hc
      exact ⟨_, _, rfl, rfl, hc, rO_ok C p (.int _)⟩
    · exact p.elim
  · exact p.elim
theorem g_pow : GrO oPow := fun w u h => by
  unfold oPow
  split
  · split <;> first | exact Nat.le_refl _ | trivial
  · trivial
theorem o_lt : OpR X (compareOp .Lt) (rO X.K cls oLt) := by
  rintro pins s σ H x y v u Q I rx ry ⟨φ, h, w1, w2, E, C, r1, r2, p⟩
  unfold oLt at p
  split at p
  · cases r1; cases r2
    exact op_lt pins s σ H _ _ v u Q I rx ry ⟨_, _, rfl, rfl, rO_ok C p (.bl _)⟩
  · rename_i a b
    cases r1; cases r2
    refine op_lt_str pins s σ H _ _ v u Q I rx ry ⟨_, _, rfl, rfl, ?_⟩
    have q := rO_ok C p (.bl _)
    refine Eq.mp (congrArg (fun b => Q (V.bl b) H) ?_) q
    exact decide_eq_decide.mpr Iff.rfl
  · exact p.elim
theorem g_lt : GrO oLt := fun w u h => by
  unfold oLt
  split <;> first | exact Nat.le_refl _ | trivial
theorem o_le : OpR X (compareOp .LtE) (rO X.K cls oLe) := o_ints0 op_le fun φ h H w u E Q C p => by
  unfold oLe at p
  split at p
  · exact ⟨_, _, rfl, rfl, rO_ok C p (.bl _)⟩
  · exact p.elim
theorem g_le : GrO oLe := fun w u h => by
  unfold oLe
  split <;> first | exact Nat.le_refl _ | trivial
theorem o_gt : OpR X (compareOp .Gt) (rO X.K cls oGt) := by
  rintro pins s σ H x y v u Q I rx ry ⟨φ, h, w1, w2, E, C, r1, r2, p⟩
  unfold oGt at p
  split at p
  · cases r1; cases r2
    exact op_gt pins s σ H _ _ v u Q I rx ry ⟨_, _, rfl, rfl, rO_ok C p (.bl _)⟩
  · rename_i a b
    cases r1; cases r2
    refine op_gt_str pins s σ H _ _ v u Q I rx ry ⟨_, _, rfl, rfl, ?_⟩
    have q := rO_ok C p (.bl _)
    refine Eq.mp (congrArg (fun b => Q (V.bl b) H) ?_) q
    first
      | exact decide_eq_decide.mpr Iff.rfl
      | exact congrArg Bool.not (decide_eq_decide.mpr Iff.rfl)
  · exact p.elim
theorem g_gt : GrO oGt := fun w u h => by
  unfold oGt
  split <;> first | exact Nat.le_refl _ | trivial
theorem o_ge : OpR X (compareOp .GtE) (rO X.K cls oGe) := by
  rintro pins s σ H x y v u Q I rx ry ⟨φ, h, w1, w2, E, C, r1, r2, p⟩
  unfold oGe at p
  split at p
  · cases r1; cases r2
    exact op_ge pins s σ H _ _ v u Q I rx ry ⟨_, _, rfl, rfl, rO_ok C p (.bl _)⟩
  · rename_i a b
    cases r1; cases r2
    refine op_ge_str pins s σ H _ _ v u Q I rx ry ⟨_, _, rfl, rfl, ?_⟩
    have q := rO_ok C p (.bl _)
    refine Eq.mp (congrArg (fun b => Q (V.bl b) H) ?_) q
    first
      | exact decide_eq_decide.mpr Iff.rfl
      | exact congrArg Bool.not (decide_eq_decide.mpr Iff.rfl)
  · exact p.elim
theorem g_ge : GrO oGe := fun w u h => by
  unfold oGe
  split <;> first | exact Nat.le_refl _ | trivial
theorem o_neg : UnR X (unaryOp .USub) (rU1 X.K cls oNeg) := by
  rintro pins s σ H x v Q I rx ⟨φ, h, w, E, C, r, p⟩
  unfold oNeg at p
  split at p
  · cases r
    exact un_neg pins s σ H _ v Q I rx ⟨_, rfl, rO_ok C p (.int _)⟩
  · exact p.elim
theorem g_neg : GrU oNeg := fun w h => by
  unfold oNeg
  split <;> first | exact Nat.le_refl _ | trivial

/-! ### equality -/
mutual
def Da.py : Da → PyData
  | .non => .none
  | .bl b => .bool b
  | .int i => .int i
  | .str s => .str (sS s)
  | .lst ds => .list (Da.pys ds)
  | .tup ds => .tuple (Da.pys ds)
def Da.pys : List Da → List PyData
  | [] => []
  | d :: ds => d.py :: Da.pys ds
end
theorem sS_beq (a b : List Nat) : (sS a == sS b) = (a == b) := by
  by_cases e : a = b
  · subst e; simp
  · have : ¬ sS a = sS b := fun z => e (sS_inj z)
    rw [beq_eq_false_iff_ne.mpr e, beq_eq_false_iff_ne.mpr this]
mutual
theorem Da.eqv_py : ∀ d e : Da, PyData.eqv d.py e.py = Da.eqB d e
  | .non, e => by cases e <;> simp [Da.py, Da.eqB, PyData.eqv]
  | .bl a, e => by cases e <;> simp [Da.py, Da.eqB, PyData.eqv]
  | .int a, e => by cases e <;> simp [Da.py, Da.eqB, PyData.eqv]
  | .str a, e => by cases e <;> simp [Da.py, Da.eqB, PyData.eqv, sS_beq]
  | .lst a, e => by cases e <;> simp [Da.py, Da.eqB, PyData.eqv, Da.eqv_pys a]
  | .tup a, e => by cases e <;> simp [Da.py, Da.eqB, PyData.eqv, Da.eqv_pys a]
theorem Da.eqv_pys : ∀ ds es : List Da, PyData.eqvAll (Da.pys ds) (Da.pys es) = Da.eqL ds es
  | [], es => by cases es <;> simp [Da.pys, Da.eqL, PyData.eqvAll]
  | d :: ds, es => by cases es <;> simp [Da.pys, Da.eqL, PyData.eqvAll, Da.eqv_py d, Da.eqv_pys ds]
end
section
variable {K : PySem.W.Frag} {φ : Phi} {h : Hs} {H : Hp}
theorem Dp_of (C : Cells K cls φ h H) : ∀ (n : Nat) (w : PF.W) (v : V) (d : Da), VR K φ h.length H w v → daOf h n w = some d → Dp K H v d.py ∧ d.py.canLay0 = true ∧ d.py.depth ≤ n := by
  have all : ∀ (n : Nat), (∀ (w : PF.W) (v : V) (d : Da), VR K φ h.length H w v → daOf h n w = some d → Dp K H v d.py ∧ d.py.canLay0 = true ∧ d.py.depth ≤ n) →
      ∀ (ws : List PF.W) (vs : List V) (ds : List Da), VRs K φ h.length H ws vs → mapO (daOf h n) ws = some ds → DpAll K H vs (Da.pys ds) ∧ PyData.canLayAll0 (Da.pys ds) = true ∧ PyData.depthAll (Da.pys ds) ≤ n := by
    intro n ih ws
    induction ws with
    | nil =>
      intro vs ds r e
      cases r
      cases e
      exact ⟨.nil, rfl, Nat.zero_le _⟩
    | cons w ws ihw =>
      intro vs ds r e
      cases r with
      | cons r0 rr =>
        rw [mapO] at e
        cases e1 : daOf h n w with
        | none => rw [e1] at e; cases e
        | some d =>
          rw [e1] at e
          cases e2 : mapO (daOf h n) ws with
          | none =>
            have e : (mapO (daOf h n) ws).bind _ = some ds := e
            rw [e2] at e; cases e
          | some ds' =>
            have e : (mapO (daOf h n) ws).bind _ = some ds := e
            rw [e2] at e
            cases e
            obtain ⟨a1, a2, a3⟩ := ih w _ d r0 e1
            obtain ⟨b1, b2, b3⟩ := ihw _ ds' rr e2
            refine ⟨.cons a1 b1, ?_, ?_⟩
            · rw [Da.pys, PyData.canLayAll0, a2, b2]; rfl
            · rw [Da.pys, PyData.depthAll]; exact Nat.max_le.mpr ⟨a3, b3⟩
  intro n
  induction n with
  | zero =>
    intro w v d r e
    cases r with
    | non => cases e; exact ⟨.non, rfl, Nat.le_refl _⟩
    | bl b => cases e; exact ⟨.bl b, rfl, Nat.le_refl _⟩
    | int i => cases e; exact ⟨.int i, rfl, Nat.le_refl _⟩
    | str s o =>
      cases e
      refine ⟨.str _, ?_, Nat.le_refl _⟩
      show PyData.strOk (sS s) = true
      unfold PyData.strOk sS
      simp
      exact o
    | _ => cases e
  | succ n ih =>
    intro w v d r e
    cases r with
    | non => cases e; exact ⟨.non, rfl, Nat.zero_le _⟩
    | bl b => cases e; exact ⟨.bl b, rfl, Nat.zero_le _⟩
    | int i => cases e; exact ⟨.int i, rfl, Nat.zero_le _⟩
    | str s o =>
      cases e
      refine ⟨.str _, ?_, Nat.zero_le _⟩
      show PyData.strOk (sS s) = true
      unfold PyData.strOk sS
      simp
      exact o
    | @tup p vs ws q rr =>
      rw [daOf] at e
      cases e1 : mapO (daOf h n) ws with
      | none => rw [e1] at e; cases e
      | some ds =>
        rw [e1] at e
        cases e
        obtain ⟨a1, a2, a3⟩ := all n ih ws vs ds rr e1
        refine ⟨.tup q a1, ?_, ?_⟩
        · rw [Da.py, PyData.canLay0]; exact a2
        · rw [Da.py, PyData.depth]; omega
    | @fl p vs ws q rr =>
      rw [daOf] at e
      cases e1 : mapO (daOf h n) ws with
      | none => rw [e1] at e; cases e
      | some ds =>
        rw [e1] at e
        cases e
        obtain ⟨a1, a2, a3⟩ := all n ih ws vs ds rr e1
        refine ⟨.lst q.l a1, ?_, ?_⟩
        · rw [Da.py, PyData.canLay0]; exact a2
        · rw [Da.py, PyData.depth]; omega
    | obj q a b t => rw [daOf] at e <;> first | cases e | simp
    | @ref i hi =>
      rw [daOf] at e
      split at e
      · rename_i ws ei
        obtain ⟨vs, hv1, hv2⟩ := C.cell i _ ei
        cases e1 : mapO (daOf h n) ws with
        | none => rw [e1] at e; cases e
        | some ds =>
          rw [e1] at e
          cases e
          obtain ⟨a1, a2, a3⟩ := all n ih ws vs ds hv2 e1
          refine ⟨.lst (.of hv1) a1, ?_, ?_⟩
          · rw [Da.py, PyData.canLay0]; exact a2
          · rw [Da.py, PyData.depth]; omega
      · cases e
    | err _ => simp [daOf] at e
    | errF _ _ _ => simp [daOf] at e
theorem eqW_of (C : Cells K cls φ h H) {w u : PF.W} {x y : V} {b : Bool} (r : VR K φ h.length H w x) (q : VR K φ h.length H u y) (e : eqW w u h = some b) :
    ∃ d e, Dp K H x d ∧ Dp K H y e ∧ SeqAt.shaped d = true ∧ SeqAt.shaped e = true ∧ PyData.eqv d e = b := by
  unfold eqW at e
  split at e
  · rename_i d1 d2 e1 e2
    cases e
    obtain ⟨a1, a2, a3⟩ := Dp_of C _ _ _ _ r e1
    obtain ⟨b1, b2, b3⟩ := Dp_of C _ _ _ _ q e2
    have l : deepest ≤ 64 := by decide
    refine ⟨_, _, a1, b1, ?_, ?_, Da.eqv_py _ _⟩
    · unfold SeqAt.shaped; rw [a2, Bool.true_and]; exact decide_eq_true (Nat.le_trans a3 l)
    · unfold SeqAt.shaped; rw [b2, Bool.true_and]; exact decide_eq_true (Nat.le_trans b3 l)
  · cases e
end
theorem o_eq (hu : X.A.units + 64 < cLine) : OpR X (compareOp .Eq) (rO X.K cls oEq) := by
  rintro pins s σ H x y v u Q I rx ry ⟨φ, h, w1, w2, E, C, r1, r2, p⟩
  unfold oEq at p
  split at p
  · rename_i b e
    obtain ⟨d, d', h1, h2, h3, h4, rfl⟩ := eqW_of C r1 r2 e
    exact op_eqD hu pins s σ H _ _ v u Q I rx ry ⟨d, d', h1, h2, h3, h4, rO_ok C p (.bl _)⟩
  · exact p.elim
theorem g_eq : GrO oEq := fun w u h => by
  unfold oEq
  split <;> first | exact Nat.le_refl _ | trivial
theorem o_ne (hu : X.A.units + 64 < cLine) : OpR X (compareOp .NotEq) (rO X.K cls oNe) := by
  rintro pins s σ H x y v u Q I rx ry ⟨φ, h, w1, w2, E, C, r1, r2, p⟩
  unfold oNe at p
  split at p
  · rename_i b e
    obtain ⟨d, d', h1, h2, h3, h4, rfl⟩ := eqW_of C r1 r2 e
    exact op_neD hu pins s σ H _ _ v u Q I rx ry ⟨d, d', h1, h2, h3, h4, rO_ok C p (.bl _)⟩
  · exact p.elim
theorem g_ne : GrO oNe := fun w u h => by
  unfold oNe
  split <;> first | exact Nat.le_refl _ | trivial
end
end PF
namespace PF
open PySem PySem.Spec PyProof.Rows L2
section
variable {X : Cx} {cls : Cl} {W : WX}
/-! ### subscripts -/
theorem atW_eq {α : Type} (xs : List α) (i : Int) : atW xs i = L2.atI xs i := rfl
theorem VRs.at {K : PySem.W.Frag} {φ : Phi} {n : Nat} {H : Hp} {ws : List PF.W} {vs : List V} {i : Int} {w : PF.W} (r : VRs K φ n H ws vs) (e : atW ws i = some w) : ∃ v, L2.atI vs i = some v ∧ VR K φ n H w v := by
  unfold atW at e
  unfold L2.atI
  rw [← r.length]
  cases h : ixW ws.length i with
  | none => rw [h] at e; cases e
  | some j =>
    rw [h] at e
    have h' : L2.ixN ws.length i = some j := h
    rw [h']
    exact r.get e
theorem okO_post {K : PySem.W.Frag} {φ : Phi} {n : Nat} {H : Hp} {E : XK} {Q : VK} {o : Option PF.W} {h : Hs} (p : Post K cls (rW K) φ n H E Q (okO o h)) : ∃ w, o = some w ∧ Post K cls (rW K) φ n H E Q (.ok w h) := by
  cases o with
  | none => exact p.elim
  | some w => exact ⟨w, rfl, p⟩
theorem okO_grows (o : Option PF.W) (h : Hs) : grows h.length (okO o h) := by
  cases o with
  | none => trivial
  | some w => exact Nat.le_refl _
theorem strIx {z : List Nat} {i : Int} {w : PF.W} (e : ((atW z i).map fun c => PF.W.str [c]) = some w) : ∃ c, atW z i = some c ∧ c ∈ z ∧ w = .str [c] := by
  cases e1 : atW z i with
  | none => rw [e1] at e; cases e
  | some c =>
    rw [e1] at e
    cases e
    refine ⟨c, rfl, ?_, rfl⟩
    unfold atW at e1
    cases h2 : ixW z.length i with
    | none => rw [h2] at e1; cases e1
    | some j => rw [h2] at e1; exact List.mem_of_getElem? e1
theorem keyV_inj {a b : Key} (e : keyV a = keyV b) : a = b := by
  cases a <;> cases b <;> simp [keyV] at e
  · rw [e]
  · rw [sS_inj e]
theorem key_ok {K : PySem.W.Frag} {φ : Phi} {n : Nat} {H : Hp} {w : PF.W} {v : V} {k : Key} (r : VR K φ n H w v) (e : keyOf w = some k) : okK k := by
  cases r <;> simp [keyOf] at e <;> subst e
  · trivial
  · assumption
theorem key_at {K : PySem.W.Frag} {φ : Phi} {n : Nat} {H : Hp} {w : PF.W} {v : V} {k : Key} (r : VR K φ n H w v) (e : keyOf w = some k) : v = kV (keyV k) := by
  cases r <;> simp [keyOf] at e <;> subst e <;> rfl
theorem KR.look {K : PySem.W.Frag} {φ : Phi} {n : Nat} {H : Hp} (k : Key) : ∀ {kvs : List (Key × PF.W)} {ks : List (L2.Key × V)}, KR K φ n H kvs ks →
    (∃ w v, lookK kvs k = some w ∧ L2.valV ks (keyV k) = some v ∧ VR K φ n H w v) ∨ (lookK kvs k = none ∧ L2.valV ks (keyV k) = none)
  | [], _, .nil => .inr ⟨rfl, rfl⟩
  | p :: kvs, _, .cons (b := q) r t => by
    obtain ⟨⟨r1, _⟩, r2⟩ := r
    unfold lookK
    by_cases e : p.1 = k
    · refine .inl ⟨p.2, q.2, if_pos e, L2.valV_pos (by rw [r1, e]), r2⟩
    · rw [if_neg e, L2.valV_neg (fun z => e (keyV_inj (r1.symm.trans z)))]
      exact KR.look k t
theorem ix_dK : IxR X (fun x y H Q => ∃ a kvs k z, x = .ref a ∧ y = kV k ∧ H a = some (.dK kvs) ∧ L2.valV kvs k = some z ∧ Q z H) := by
  intro value slice pins s σ H x y v u Q I rx ry h hs
  obtain ⟨a, kvs, k, z, rfl, rfl, e, l, q⟩ := h
  cases rx
  obtain ⟨zz, hd, vs, rel, dd⟩ := dk_of I.hok e
  obtain ⟨w', hw, rw'⟩ := RelO.some_of (v := z) (o := valueAt vs k) (by rw [← l]; exact rel.val k)
  exact subscriptTail_builtinR (x := w') dd.typeIs PySem.F.slot_dict_getitem.lookup (wpAny_getItem_of (Q := fun r s' => r = w' ∧ EP X pins σ Q r s') (kV_is ry) dd.mapOf hw ⟨rfl, z, H, I.tok _, rw', q⟩) hs
theorem ix_s : IxR X (rO X.K cls oIx) := by
  rintro value slice pins s σ H x y v u Q I rx ry ⟨φ, h, w1, w2, E, C, r1, r2, p⟩ hs
  unfold oIx at p
  split at p
  · cases r2
    cases r1 with
    | tup q t =>
      obtain ⟨w, e, p⟩ := okO_post p
      obtain ⟨z, hz, rz⟩ := t.at e
      exact ix_tup value slice pins s σ H _ _ v u Q I rx ry ⟨_, _, _, z, rfl, rfl, q, hz, rO_ok C p rz⟩ hs
  · cases r2
    cases r1 with
    | fl q t =>
      obtain ⟨w, e, p⟩ := okO_post p
      obtain ⟨z, hz, rz⟩ := t.at e
      exact ix_list value slice pins s σ H _ _ v u Q I rx ry ⟨_, _, _, z, rfl, rfl, q.l, hz, rO_ok C p rz⟩ hs
  · cases r2
    split at p
    · rename_i ws ei
      cases r1 with
      | ref hi =>
        obtain ⟨vs, hv1, hv2⟩ := C.cell _ _ ei
        obtain ⟨w, e, p⟩ := okO_post p
        obtain ⟨z, hz, rz⟩ := hv2.at e
        exact ix_list value slice pins s σ H _ _ v u Q I rx ry ⟨_, _, _, z, rfl, rfl, .of hv1, hz, rO_ok C p rz⟩ hs
    · rename_i kvs ei
      cases r1 with
      | ref hi =>
        obtain ⟨ks, hv1, hv2⟩ := C.cell _ _ ei
        obtain ⟨w, e, p⟩ := okO_post p
        rcases KR.look (.inl _) hv2 with ⟨w', z, e1, e2, rz⟩ | ⟨e1, _⟩
        · rw [e1] at e
          cases e
          exact ix_dK value slice pins s σ H _ _ v u Q I rx ry ⟨_, _, _, z, rfl, rfl, hv1, e2, rO_ok C p rz⟩ hs
        · rw [e1] at e; cases e
    · exact p.elim
  · cases r2
    split at p
    · rename_i kvs ei
      cases r1 with
      | ref hi =>
        obtain ⟨ks, hv1, hv2⟩ := C.cell _ _ ei
        obtain ⟨w, e, p⟩ := okO_post p
        rcases KR.look (.inr _) hv2 with ⟨w', z, e1, e2, rz⟩ | ⟨e1, _⟩
        · rw [e1] at e
          cases e
          exact ix_dK value slice pins s σ H _ _ v u Q I rx ry ⟨_, _, _, z, rfl, rfl, hv1, e2, rO_ok C p rz⟩ hs
        · rw [e1] at e; cases e
    · exact p.elim
  · cases r2
    split at p
    · rename_i hl
      cases r1 with
      | str _ hz =>
        obtain ⟨w, e, p⟩ := okO_post p
        obtain ⟨c, e1, hc, rfl⟩ := strIx e
        refine ix_str value slice pins s σ H _ _ v u Q I rx ry ⟨_, _, c, rfl, rfl, ?_, ?_, ?_⟩ hs
        · rw [sS_len, ← bigL_eq]; exact hl
        · have e2 : ∀ z : List Nat, (sS z).cps.toList = z := fun z => by simp [sS]
          rw [e2]
          exact e1
        · exact rO_ok C p (.str [c] (fun d hd => by rw [List.mem_singleton.mp hd]; exact hz c hc))
    · exact p.elim
  · exact p.elim
theorem g_ix : GrO oIx := fun w u h => by
  unfold oIx
  split
  · exact okO_grows _ _
  · exact okO_grows _ _
  · split
    · exact okO_grows _ _
    · exact okO_grows _ _
    · trivial
  · split
    · exact okO_grows _ _
    · trivial
  · split
    · exact okO_grows _ _
    · trivial
  · trivial
theorem re_ix {a b : Expr} {pos : Pos} {da db : PF.D} (ha : RE X cls W a da) (hb : RE X cls W b db) (hs : PlainIx b := by exact fun _ _ => rfl) : RE X cls W (.Subscript a b pos) (dBin oIx da db) :=
  ⟨(pe_ix ix_s ha.pe hb.pe hs).imp fun _ _ _ t => t.bin ha.g hb.g, grow_bin g_ix ha.g hb.g⟩
/-! ### slices -/
def rP : Rl (Option Int) (Option Int) := fun _ _ _ a b => a = b
structure RP (X : Cx) (cls : Cl) (W : WX) (e : Option Expr) (d : PF.P) : Prop where
  po : PO X e (tG X.K cls rP W d)
  g : Grow d
theorem _root_.L2.PO.imp {X : Cx} {e : Option Expr} {t t' : TO} (h : PO X e t) (i : ∀ σ H Q, t' σ H Q → t σ H Q) : PO X e t' := ⟨fun pins s σ H Q I q => h.run pins s σ H Q I (i _ _ _ q)⟩
theorem rp_no : RP X cls W none pNo := ⟨po_none.imp fun σ H Q t => t.ok fun φ h ρ x p => p φ none H (Ext.refl _ _) (Keep.refl _) x.C rfl, fun _ _ => Nat.le_refl _⟩
theorem rp_at {e : Expr} {d : PF.D} (he : RE X cls W e d) : RP X cls W (some e) (pAt d) :=
  ⟨(po_some he.pe).imp fun σ H Q t => t.ok fun φ h ρ x p => x.first (he.g ρ h) p fun v H1 φ1 w1 h1 g1 x1 p1 => by
    have r1 : VR X.K φ1 h1.length H1 w1 v := g1.r
    split at p1
    · cases r1
      exact ⟨_, rfl, p1 φ1 _ H1 (Ext.refl _ _) (Keep.refl _) g1.C rfl⟩
    · exact p1.elim,
   fun ρ h => (he.g ρ h).bind fun w h1 _ l => by split <;> first | exact l | trivial⟩
theorem VRs.cutW {K : PySem.W.Frag} {φ : Phi} {n : Nat} {H : Hp} {ws : List PF.W} {vs : List V} (r : VRs K φ n H ws vs) (lo hi : Option Int) : VRs K φ n H (PF.cutW ws lo hi) (L2.cutV vs lo hi) := by
  unfold PF.cutW L2.cutV
  rw [← r.length]
  exact (r.drop _).take _
theorem cutW_all {α : Type} {ws : List α} {lo hi : Option Int} (h1 : sIxW ws.length 0 lo = 0) (h2 : sIxW ws.length ws.length hi = ws.length) : PF.cutW ws lo hi = ws := by
  unfold PF.cutW
  rw [h1, h2, List.drop_zero, Nat.sub_zero, List.take_length]
def rSl (K : PySem.W.Frag) (cls : Cl) : V → Option Int → Option Int → Hp → VK → Prop := fun x lo hi H Q => ∃ φ h w E, Cells K cls φ h H ∧ VR K φ h.length H w x ∧ Post K cls (rW K) φ h.length H E Q (oSl w lo hi h)
theorem cutS_eq (z : List Nat) (lo hi : Option Int) : L2.cutS (sS z) lo hi = sS (PF.cutW z lo hi) := by
  unfold L2.cutS PF.cutW
  rw [sS_len]
  have e : (sS z).cps.toList = z := by simp [sS]
  rw [e]
  rfl
theorem okS_cut {z : List Nat} (h : okS z) (lo hi : Option Int) : okS (PF.cutW z lo hi) := fun c hc => h c (List.mem_of_mem_drop (List.mem_of_mem_take hc))
theorem slice_s : SlR X (rSl X.K cls) := by
  rintro pins s σ H x v vl vu lo hi sl Q I rx hs pl pu ⟨φ, h, w, E, C, r, p⟩
  unfold oSl at p
  split at p
  · cases r with
    | tup q t =>
      refine sl_tupA pins s σ H _ v vl vu _ _ sl Q I rx hs pl pu ⟨_, _, rfl, q, fun hz => ?_, fun _ => post_tup C (t.cutW _ _) p⟩
      refine rO_ok C p ?_
      have l := t.length
      rw [cutW_all (by rw [l]; exact hz.1) (by rw [l]; exact hz.2)]
      exact .tup q t
  · cases r with
    | fl q t => exact sl_list pins s σ H _ v vl vu _ _ sl Q I rx hs pl pu ⟨_, _, rfl, q.l, post_lst C (t.cutW _ _) p⟩
  · split at p
    · rename_i ws ei
      cases r with
      | ref hi' =>
        obtain ⟨vs, hv1, hv2⟩ := C.cell _ _ ei
        exact sl_list pins s σ H _ v vl vu _ _ sl Q I rx hs pl pu ⟨_, _, rfl, .of hv1, post_lst C (hv2.cutW _ _) p⟩
    · exact p.elim
  · split at p
    · rename_i hl
      cases r with
      | str z hz =>
        refine sl_str pins s σ H _ v vl vu _ _ sl Q I rx hs pl pu ⟨_, rfl, ?_, ?_⟩
        · rw [sS_len, ← bigL_eq]; exact hl
        · rw [cutS_eq]; exact rO_ok C p (.str _ (okS_cut hz _ _))
    · exact p.elim
  · exact p.elim
theorem g_sl (w : PF.W) (lo hi : Option Int) (h : Hs) : grows h.length (oSl w lo hi h) := by
  unfold oSl
  split
  · exact Nat.le_refl _
  · exact newL_grows _ _
  · split
    · exact newL_grows _ _
    · trivial
  · split
    · exact Nat.le_refl _
    · trivial
  · trivial
theorem re_sl {e : Expr} {lo hi : Option Expr} {pos p2 : Pos} {d : PF.D} {l u : PF.P} (he : RE X cls W e d) (hl : RP X cls W lo l) (hu : RP X cls W hi u) : RE X cls W (.Subscript e (.Slice lo hi none p2) pos) (dSl d l u) :=
  ⟨(pe_slice slice_s he.pe hl.po hu.po).imp fun σ H Q t => t.ok fun φ h ρ x p => x.first (he.g ρ h) p fun v H1 φ1 w1 h1 g1 x1 p1 => x1.first (hl.g ρ h1) p1 fun a H2 φ2 a2 h2 g2 x2 p2 => x2.first (hu.g ρ h2) p2 fun b H3 φ3 b3 h3 g3 x3 p3 => by
    have e2 : a2 = a := g2.r
    have e3 : b3 = b := g3.r
    subst e2 e3
    exact ⟨φ3, h3, w1, _, g3.C, VR.mono g3.e g3.l g3.k (VR.mono g2.e g2.l g2.k g1.r), p3⟩,
   fun ρ h => (he.g ρ h).bind fun w h1 _ l1 => ((hl.g ρ h1).le l1).bind fun a h2 _ l2 => ((hu.g ρ h2).le l2).bind fun b h3 _ l3 => (g_sl w a b h3).le l3⟩
end
end PF
namespace PF
open PySem PySem.Spec PyProof.Rows L2
section
variable {X : Cx} {cls : Cl} {W : WX}
/-! ### built-in functions and classes by name -/
theorem re_biB {id : String} {f : Fn} {x : PySem.Str} {p pos : Pos} {e : Expr} {es : List Expr} {as : As} (hc : CallR X (.builtin id) (rC X.K cls f)) (gf : GrC f) (hg : Gl X x) (hm : X.mg x = none) (hv : bootBuiltins x = some (.builtin id)) (ha : RA X cls W (e :: es) as) (hn : x ≠ "__name__" := by decide) (hdb : (x == ("__debug__" : PySem.Str)) = false := by decide)
    (he : starEach (e :: es) X.env = (false, eval e X.env) :: starEach es X.env := by rfl) (hpl : (backTo pos (starEach es X.env)).any (·.1) = false := by rfl) : RE X cls W (.Call (.Name x p) (e :: es) [] pos) (dCall f as) :=
  ⟨(pe_callB hc hg hm hv ha.pa hn hdb he hpl).imp fun σ H Q t => t.call ha.g, grow_call gf ha.g⟩
theorem re_biT {T : String} {f : Fn} {x : PySem.Str} {p pos : Pos} {e : Expr} {es : List Expr} {as : As} (hc : CallR X (.type T) (rC X.K cls f)) (gf : GrC f) (hg : Gl X x) (hm : X.mg x = none) (hv : bootBuiltins x = some (.type T)) (ha : RA X cls W (e :: es) as) (hn : x ≠ "__name__" := by decide) (hdb : (x == ("__debug__" : PySem.Str)) = false := by decide)
    (he : starEach (e :: es) X.env = (false, eval e X.env) :: starEach es X.env := by rfl) (hpl : (backTo pos (starEach es X.env)).any (·.1) = false := by rfl) : RE X cls W (.Call (.Name x p) (e :: es) [] pos) (dCall f as) :=
  ⟨(pe_callTy hc hg hm hv ha.pa hn hdb he hpl).imp fun σ H Q t => t.call ha.g, grow_call gf ha.g⟩
theorem c_abs : CallR X (.builtin "abs") (rC X.K cls bAbs) := by
  rintro pins s σ H xs us Q I r ⟨φ, h, ws, E, C, rs, p⟩
  unfold bAbs at p
  split at p
  · cases rs with
    | cons r1 rs => cases rs; cases r1; exact call_abs pins s σ H _ us Q I r ⟨_, rfl, rO_ok C p (.int _)⟩
  · exact p.elim
theorem gc_abs : GrC bAbs := fun ws h => by
  unfold bAbs
  split <;> first | exact Nat.le_refl _ | trivial
theorem c_max2 (hc : X.calm = true) : CallR X (.builtin "max") (rC X.K cls bMax2) := by
  rintro pins s σ H xs us Q I r ⟨φ, h, ws, E, C, rs, p⟩
  unfold bMax2 at p
  split at p
  · cases rs with
    | cons r1 rs => cases rs with
      | cons r2 rs => cases rs; cases r1; cases r2; exact call_max2 hc pins s σ H _ us Q I r ⟨_, _, rfl, rO_ok C p (.int _)⟩
  · exact p.elim
theorem gc_max2 : GrC bMax2 := fun ws h => by
  unfold bMax2
  split <;> first | exact Nat.le_refl _ | trivial
theorem c_min2 (hc : X.calm = true) : CallR X (.builtin "min") (rC X.K cls bMin2) := by
  rintro pins s σ H xs us Q I r ⟨φ, h, ws, E, C, rs, p⟩
  unfold bMin2 at p
  split at p
  · cases rs with
    | cons r1 rs => cases rs with
      | cons r2 rs => cases rs; cases r1; cases r2; exact call_min2 hc pins s σ H _ us Q I r ⟨_, _, rfl, rO_ok C p (.int _)⟩
  · exact p.elim
theorem gc_min2 : GrC bMin2 := fun ws h => by
  unfold bMin2
  split <;> first | exact Nat.le_refl _ | trivial
theorem call_divmodZ : CallR X (.builtin "divmod") (fun xs H Q => ∃ i j, xs = [.int i, .int j] ∧ divOK i j ∧ ∀ p, H p = none → Q (.ref p) (upd H p (.tup [.int (i.fdiv j), .int (i.fmod j)]))) := by
  intro pins s σ H xs us Q I r h
  obtain ⟨i, j, rfl, ⟨h1, h2⟩, q⟩ := h
  obtain ⟨u, w', rfl, ⟨t, rfl⟩, ⟨t', rfl⟩⟩ := vals2 r
  refine divmod_int h1 ?_ (.inl h2)
  have hn : H s.heap.objs.size = none := I.hok.fresh (Nat.le_refl _)
  refine ⟨.ref s.heap.objs.size, _, ?_, rfl, q _ hn⟩
  refine I.laid (fun b o e => Heap.get?_push_of_some _ e) (Nat.le_refl _) ⟨by simp only [List.length_cons, List.length_nil]; rw [sizeLine_eq]; decide, [.int (i.fdiv j) s.toks, .int (i.fmod j) (s.toks + 1)], .cons ⟨_, rfl⟩ (.cons ⟨_, rfl⟩ .nil), ?_⟩
  exact ⟨_, Heap.get?_push_size s.heap rfl, rfl, 0, rfl⟩
theorem c_divmod : CallR X (.builtin "divmod") (rC X.K cls bDivmod) := by
  rintro pins s σ H xs us Q I r ⟨φ, h, ws, E, C, rs, p⟩
  unfold bDivmod at p
  split at p
  · split at p
    · rename_i hd
      cases rs with
      | cons r1 rs => cases rs with
        | cons r2 rs =>
          cases rs; cases r1; cases r2
          exact call_divmodZ pins s σ H _ us Q I r ⟨_, _, rfl, hd, post_tup C (.cons (.int _) (.cons (.int _) .nil)) p⟩
    · exact p.elim
  · exact p.elim
theorem gc_divmod : GrC bDivmod := fun ws h => by
  unfold bDivmod
  split
  · split <;> first | exact Nat.le_refl _ | trivial
  · trivial
theorem c_len : CallR X (.builtin "len") (rC X.K cls bLen) := by
  rintro pins s σ H xs us Q I r ⟨φ, h, ws, E, C, rs, p⟩
  unfold bLen at p
  split at p
  · cases rs with
    | cons r1 rs =>
      cases rs
      cases r1 with
      | tup q t => exact call_len_seq pins s σ H _ us Q I r ⟨_, _, rfl, .inr q, by rw [← t.length]; exact rO_ok C p (.int _)⟩
  · cases rs with
    | cons r1 rs =>
      cases rs
      cases r1 with
      | fl q t => exact call_len_seq pins s σ H _ us Q I r ⟨_, _, rfl, .inl q.l, by rw [← t.length]; exact rO_ok C p (.int _)⟩
  · split at p
    · rename_i hl
      cases rs with
      | cons r1 rs =>
        cases rs
        cases r1 with
        | str _ hz => exact call_len_str pins s σ H _ us Q I r ⟨_, rfl, by rw [sS_len, ← bigL_eq]; exact hl, by rw [sS_len]; exact rO_ok C p (.int _)⟩
    · exact p.elim
  · cases rs with
    | cons r1 rs =>
      cases rs
      cases r1 with
      | ref hi =>
        split at p
        · rename_i ws ei
          obtain ⟨vs, hv1, hv2⟩ := C.cell _ _ ei
          exact call_len_seq pins s σ H _ us Q I r ⟨_, _, rfl, .inl (.of hv1), by rw [← hv2.length]; exact rO_ok C p (.int _)⟩
        · rename_i kvs ei
          obtain ⟨vs, hv1, hv2⟩ := C.cell _ _ ei
          exact call_lenD pins s σ H _ us Q I r ⟨_, _, rfl, hv1, by rw [← Paired.length hv2]; exact rO_ok C p (.int _)⟩
        · exact p.elim
  · exact p.elim
theorem gc_len : GrC bLen := fun ws h => by
  unfold bLen
  split
  · exact Nat.le_refl _
  · exact Nat.le_refl _
  · split <;> first | exact Nat.le_refl _ | trivial
  · split <;> first | exact Nat.le_refl _ | trivial
  · trivial
theorem c_int : CallR X (.type "int") (rC X.K cls bInt) := by
  rintro pins s σ H xs us Q I r ⟨φ, h, ws, E, C, rs, p⟩
  unfold bInt at p
  split at p
  · cases rs with
    | cons r1 rs => cases rs; cases r1; exact call_int1 pins s σ H _ us Q I r (.inl ⟨_, rfl, rO_ok C p (.int _)⟩)
  · cases rs with
    | cons r1 rs => cases rs; cases r1; exact call_int1 pins s σ H _ us Q I r (.inr ⟨_, rfl, rO_ok C p (.int _)⟩)
  · exact p.elim
theorem gc_int : GrC bInt := fun ws h => by
  unfold bInt
  split <;> first | exact Nat.le_refl _ | trivial
theorem seqOf_at {K : PySem.W.Frag} {φ : Phi} {h : Hs} {H : Hp} {w : PF.W} {v : V} {ws : List PF.W} (C : Cells K cls φ h H) (r : VR K φ h.length H w v) (e : seqOf w h = some ws) : ∃ a vs, v = .ref a ∧ (SqL K H a vs ∨ SqT K H a vs) ∧ VRs K φ h.length H ws vs := by
  cases r with
  | tup q t => cases e; exact ⟨_, _, rfl, .inr q, t⟩
  | fl q t => cases e; exact ⟨_, _, rfl, .inl q.l, t⟩
  | @ref i hi =>
    have e' : lstOf (.ref i) h = some ws := e
    obtain ⟨a, vs, h1, h2, h3⟩ := lstOf_at C (.ref hi) e'
    exact ⟨a, vs, h1, .inl h2, h3⟩
  | _ => cases e
theorem c_list : CallR X (.type "list") (rC X.K cls bList) := by
  rintro pins s σ H xs us Q I r ⟨φ, h, ws, E, C, rs, p⟩
  unfold bList at p
  split at p
  · split at p
    · rename_i ws e
      cases rs with
      | cons r1 rs =>
        cases rs
        obtain ⟨a, vs, rfl, hs, ht⟩ := seqOf_at C r1 e
        exact call_list_of pins s σ H _ us Q I r ⟨a, vs, rfl, hs, post_lst C ht p⟩
    · exact p.elim
  · exact p.elim
theorem gc_list : GrC bList := fun ws h => by
  unfold bList
  split
  · split
    · exact newL_grows _ _
    · trivial
  · trivial
theorem c_tuple : CallR X (.type "tuple") (rC X.K cls bTuple) := by
  rintro pins s σ H xs us Q I r ⟨φ, h, ws, E, C, rs, p⟩
  unfold bTuple at p
  split at p
  · cases rs with
    | cons r1 rs =>
      cases rs
      cases r1 with
      | tup q t => exact call_tuple_of pins s σ H _ us Q I r ⟨_, _, rfl, .inr ⟨q, rO_ok C p (.tup q t)⟩⟩
  · split at p
    · rename_i ws e
      cases rs with
      | cons r1 rs =>
        cases rs
        obtain ⟨a, vs, rfl, hs, ht⟩ := lstOf_at C r1 e
        exact call_tuple_of pins s σ H _ us Q I r ⟨a, vs, rfl, .inl ⟨hs, post_tup C ht p⟩⟩
    · exact p.elim
  · exact p.elim
theorem gc_tuple : GrC bTuple := fun ws h => by
  unfold bTuple
  split
  · exact Nat.le_refl _
  · split <;> first | exact Nat.le_refl _ | trivial
  · trivial
theorem intsOf_at {K : PySem.W.Frag} {φ : Phi} {n : Nat} {H : Hp} : ∀ {ws : List PF.W} {vs : List V} {is : List Int}, VRs K φ n H ws vs → intsOf ws = some is → vs = is.map V.int
  | [], _, _, .nil, e => by cases e; rfl
  | .int i :: ws, _, is, .cons (.int _) t, e => by
    rw [intsOf] at e
    cases h : intsOf ws with
    | none => rw [h] at e; cases e
    | some js =>
      rw [h] at e
      cases e
      rw [List.map_cons, intsOf_at t h]
theorem blsOf_at {K : PySem.W.Frag} {φ : Phi} {n : Nat} {H : Hp} : ∀ {ws : List PF.W} {vs : List V} {is : List Bool}, VRs K φ n H ws vs → blsOf ws = some is → vs = is.map V.bl
  | [], _, _, .nil, e => by cases e; rfl
  | .bl i :: ws, _, is, .cons (.bl _) t, e => by
    rw [blsOf] at e
    cases h : blsOf ws with
    | none => rw [h] at e; cases e
    | some js =>
      rw [h] at e
      cases e
      rw [List.map_cons, blsOf_at t h]
theorem ints_at {K : PySem.W.Frag} {φ : Phi} {h : Hs} {H : Hp} {w : PF.W} {v : V} {is : List Int} (C : Cells K cls φ h H) (r : VR K φ h.length H w v) (e : (lstOf w h).bind intsOf = some is) : ∃ a, v = .ref a ∧ SqL K H a (is.map V.int) := by
  cases e1 : lstOf w h with
  | none => rw [e1] at e; cases e
  | some ws =>
    rw [e1] at e
    obtain ⟨a, vs, rfl, hs, ht⟩ := lstOf_at C r e1
    exact ⟨a, rfl, by rw [← intsOf_at ht e]; exact hs⟩
theorem bls_at {K : PySem.W.Frag} {φ : Phi} {h : Hs} {H : Hp} {w : PF.W} {v : V} {is : List Bool} (C : Cells K cls φ h H) (r : VR K φ h.length H w v) (e : (lstOf w h).bind blsOf = some is) : ∃ a, v = .ref a ∧ SqL K H a (is.map V.bl) := by
  cases e1 : lstOf w h with
  | none => rw [e1] at e; cases e
  | some ws =>
    rw [e1] at e
    obtain ⟨a, vs, rfl, hs, ht⟩ := lstOf_at C r e1
    exact ⟨a, rfl, by rw [← blsOf_at ht e]; exact hs⟩
theorem c_sum (hc : X.calm = true) : CallR X (.builtin "sum") (rC X.K cls bSum) := by
  rintro pins s σ H xs us Q I r ⟨φ, h, ws, E, C, rs, p⟩
  unfold bSum at p
  split at p
  · split at p
    · rename_i is e
      cases rs with
      | cons r1 rs =>
        cases rs
        obtain ⟨a, rfl, hs⟩ := ints_at C r1 e
        exact cr_sum hc pins s σ H _ us Q I r ⟨a, is, rfl, hs, rO_ok C p (.int _)⟩
    · exact p.elim
  · exact p.elim
theorem gc_sum : GrC bSum := fun ws h => by
  unfold bSum
  split
  · split <;> first | exact Nat.le_refl _ | trivial
  · trivial
theorem c_all (hc : X.calm = true) : CallR X (.builtin "all") (rC X.K cls bAll) := by
  rintro pins s σ H xs us Q I r ⟨φ, h, ws, E, C, rs, p⟩
  unfold bAll at p
  split at p
  · split at p
    · rename_i is e
      cases rs with
      | cons r1 rs =>
        cases rs
        obtain ⟨a, rfl, hs⟩ := bls_at C r1 e
        exact cr_all hc pins s σ H _ us Q I r ⟨a, is, rfl, hs, rO_ok C p (.bl _)⟩
    · exact p.elim
  · exact p.elim
theorem gc_all : GrC bAll := fun ws h => by
  unfold bAll
  split
  · split <;> first | exact Nat.le_refl _ | trivial
  · trivial
theorem c_any (hc : X.calm = true) : CallR X (.builtin "any") (rC X.K cls bAny) := by
  rintro pins s σ H xs us Q I r ⟨φ, h, ws, E, C, rs, p⟩
  unfold bAny at p
  split at p
  · split at p
    · rename_i is e
      cases rs with
      | cons r1 rs =>
        cases rs
        obtain ⟨a, rfl, hs⟩ := bls_at C r1 e
        exact cr_any hc pins s σ H _ us Q I r ⟨a, is, rfl, hs, rO_ok C p (.bl _)⟩
    · exact p.elim
  · exact p.elim
theorem gc_any : GrC bAny := fun ws h => by
  unfold bAny
  split
  · split <;> first | exact Nat.le_refl _ | trivial
  · trivial
end
end PF
namespace PF
open PySem PySem.Spec PyProof.Rows L2
def Ty.nm : Ty → String
  | .int => "int"
  | .bool => "bool"
  | .str => "str"
  | .tuple => "tuple"
  | .list => "list"
section
variable {X : Cx} {cls : Cl} {W : WX}
/-! ### isinstance(e, kind) -/
theorem isTy_at {K : PySem.W.Frag} {φ : Phi} {h : Hs} {H : Hp} {w : PF.W} {v : V} {t : Ty} {b : Bool} (C : Cells K cls φ h H) (r : VR K φ h.length H w v) (e : isTy t w h = some b) : ∃ a : String, TyX K H v (.type a) ∧ kitB a t.nm = some b := by
  cases r with
  | non => cases e; exact ⟨_, .base .non, by cases t <;> decide +kernel⟩
  | bl c => cases e; exact ⟨_, .base (.bl c), by cases t <;> decide +kernel⟩
  | int i => cases e; exact ⟨_, .base (.int i), by cases t <;> decide +kernel⟩
  | str s o => cases e; exact ⟨_, .base (.str _), by cases t <;> decide +kernel⟩
  | tup q _ =>
    cases e
    rcases q with (q | ⟨o, q⟩) | ⟨o, its, n, q, c, _⟩
    · exact ⟨_, .base (.tup q), by cases t <;> decide +kernel⟩
    · exact ⟨_, .fTuple q, by cases t <;> decide +kernel⟩
    · exact ⟨_, .kTuple q c, by cases t <;> decide +kernel⟩
  | fl q _ =>
    cases e
    rcases q with ⟨o, q⟩ | ⟨o, its, n, q, c, _⟩
    · exact ⟨_, .base (.frz q), by cases t <;> decide +kernel⟩
    · exact ⟨_, .kList q c, by cases t <;> decide +kernel⟩
  | @ref i hi =>
    unfold isTy at e
    dsimp only at e
    split at e
    · rename_i ws ei
      cases e
      obtain ⟨vs, hv, _⟩ := C.cell _ _ ei
      exact ⟨_, .base (.lst hv), by cases t <;> decide +kernel⟩
    · rename_i kvs ei
      cases e
      obtain ⟨vs, hv, _⟩ := C.cell _ _ ei
      exact ⟨_, .base (.dK hv), by cases t <;> decide +kernel⟩
    · cases e
  | err _ => cases e
  | errF _ _ _ => cases e
  | obj _ _ _ _ => cases e
theorem g_is (t : Ty) : GrU (oIs t) := fun w h => by
  unfold oIs
  split <;> first | exact Nat.le_refl _ | trivial
theorem re_is (t : Ty) {x : PySem.Str} {p p2 pos : Pos} {e : Expr} {d : PF.D} (hg : Gl X "isinstance") (hm : X.mg "isinstance" = none) (hg2 : Gl X x) (hm2 : X.mg x = none) (hv2 : bootBuiltins x = some (.type t.nm)) (he : RE X cls W e d) (hn2 : x ≠ "__name__" := by decide) (hdb2 : (x == ("__debug__" : PySem.Str)) = false := by decide)
    (hs : starEach [e, .Name x p2] X.env = (false, eval e X.env) :: starEach [.Name x p2] X.env := by rfl) (hs2 : starEach [.Name x p2] X.env = (false, eval (.Name x p2) X.env) :: starEach [] X.env := by rfl)
    (hpl : (backTo pos (starEach [.Name x p2] X.env)).any (·.1) = false := by rfl) : RE X cls W (.Call (.Name "isinstance" p) [e, .Name x p2] [] pos) (dUn (oIs t) d) := by
  refine ⟨(pe_callB call_isi hg hm (by decide +kernel) (pa_cons he.pe (pa_cons (pe_bltn (v := .ty t.nm) hg2 hm2 hv2 rfl hn2 hdb2) pa_nil hs2) hs) (by decide) (by decide) hs hpl).imp fun σ H Q t' => t'.ok fun φ h ρ x p => ?_, grow_un (g_is t) he.g⟩
  refine x.first (he.g ρ h) p fun v H1 φ1 w1 h1 g1 x1 p1 => ?_
  have r1 : VR X.K φ1 h1.length H1 w1 v := g1.r
  unfold oIs at p1
  split at p1
  · rename_i b e1
    obtain ⟨a, ht, hk⟩ := isTy_at g1.C r1 e1
    exact ⟨v, .ty t.nm, .type a, .type t.nm, b, rfl, .ty _, ht, kit_ty hk, rO_ok g1.C p1 (.bl b)⟩
  · exact p1.elim
/-! ### is None -/
theorem g_isN : GrU oIsN := fun w h => Nat.le_refl _
theorem g_notN : GrU oNotN := fun w h => Nat.le_refl _
theorem vr_non {K : PySem.W.Frag} {φ : Phi} {n : Nat} {H : Hp} {w : PF.W} {v : V} (r : VR K φ n H w v) : decide (w = .non) = decide (v = .non) := by
  cases r <;> simp
theorem re_isN {a : Expr} {j : Tok} {p pos : Pos} {d : PF.D} (he : RE X cls W a d) : RE X cls W (.Compare a [.Is] [.Constant .none j p] pos) (dUn oIsN d) :=
  ⟨(pe_cmp (pc_isN he.pe) rfl).imp fun σ H Q t => t.ok fun φ h ρ x p => x.first (he.g ρ h) p fun v H1 φ1 w1 h1 g1 x1 p1 => by
    have q := rO_ok g1.C p1 (.bl _)
    rw [vr_non g1.r] at q
    exact q, grow_un g_isN he.g⟩
theorem re_notN {a : Expr} {j : Tok} {p pos : Pos} {d : PF.D} (he : RE X cls W a d) : RE X cls W (.Compare a [.IsNot] [.Constant .none j p] pos) (dUn oNotN d) :=
  ⟨(pe_cmp (pc_notN he.pe) rfl).imp fun σ H Q t => t.ok fun φ h ρ x p => x.first (he.g ρ h) p fun v H1 φ1 w1 h1 g1 x1 p1 => by
    have q := rO_ok g1.C p1 (.bl _)
    rw [vr_non g1.r] at q
    exact q, grow_un g_notN he.g⟩
/-! ### raise -/
/-- what the top says of an own exception class -/
structure ExF (K : PySem.W.Frag) (mg : PySem.Str → Option Value) (C : Addr) (name : PySem.Str) : Prop where
  gC : mg name = some (.ref C)
  xC : PySem.W.excIn K C [.type "ValueError", .type "Exception", .type "BaseException", .type "object"] "ValueError.__new__" = true
  kC : PySem.W.keepIn K (.ref C) = true
  bC : PySem.W.subIn K (.ref C) (.type "BaseException") = some true
  tC : PySem.W.typeIn K (.ref C) = some (.type "type")
theorem rs_raise (c : Nat) {x m : PySem.Str} {j : Tok} {p p2 pos pos' : Pos} (hc : X.calm = true) (tk : Takes X W) (F : ExF X.K X.mg (cls c) x) (hg : Gl X x) (hdb : (x == ("__debug__" : PySem.Str)) = false := by decide) :
    RS X cls W (.Raise (some (.Call (.Name x p) [.Constant (.str m) j p2] [] pos)) none pos') (sRaise c) :=
  ⟨(ps_raise hc tk (pmk_own PySem.F.excBase_ValueError F.xC F.gC F.kC (raises_own F.bC F.tC) hg hdb)).imp fun D σ H t => t.ok fun φ h ρ x p => p φ none σ H (Ext.refl _ _) (Keep.refl _) x rfl, fun _ _ => Nat.le_refl _⟩
/-! ### try .. except -/
theorem growS_tryA {L : List Nat} {i : Nat} {tk : Nat → Bool} {b : Sm} {su : Nat → Sm} (gb : GrowS b) : GrowS (sTryA L i tk b su) := fun ρ h => by
  have g := gb ρ h
  unfold sTryA
  revert g
  cases b ρ h with
  | exc c p ρ1 h1 =>
    intro g
    dsimp only
    split
    · split
      · unfold onT
        split
        · split
          · rename_i z
            have q := (tame_of z.2).1
            unfold growsS at g ⊢
            dsimp only at g ⊢
            rw [List.length_take]
            omega
          · trivial
        · trivial
      · exact g
    · trivial
  | _ => exact fun g => g
theorem VR.toErr {K : PySem.W.Frag} {φ : Phi} {n : Nat} {H : Hp} (he : φ.e = none) (a : Addr × Option Addr) {w : PF.W} {v : V} (r : VR K φ n H w v) : VR K ⟨φ.f, some a, φ.c⟩ n H w v := VR.cut (φ := φ) (φ' := ⟨φ.f, some a, φ.c⟩) (fun _ _ => rfl) rfl r (r.bd he)
theorem VRs.toErr {K : PySem.W.Frag} {φ : Phi} {n : Nat} {H : Hp} (he : φ.e = none) (a : Addr × Option Addr) {w : List PF.W} {v : List V} (r : VRs K φ n H w v) : VRs K ⟨φ.f, some a, φ.c⟩ n H w v := VRs.cut (φ := φ) (φ' := ⟨φ.f, some a, φ.c⟩) (fun _ _ => rfl) rfl r (r.bd he)
abbrev Cl.in (cls : Cl) (a : Addr) (d : Option Addr) : Cl := ⟨cls.f, some (a, d)⟩
theorem tame_self (h : Hs) : tame h h = true := by
  unfold tame
  simp
theorem Cells.toErr {K : PySem.W.Frag} {cls : Cl} {φ : Phi} {h : Hs} {H : Hp} (he : φ.e = none) (a : Addr) (d : Option Addr) (C : Cells K cls φ h H) : Cells K (cls.in a d) ⟨φ.f, some (a, d), φ.c⟩ h H :=
by
  have := Cells.less (cls' := cls.in a d) (φ'' := ⟨φ.f, some (a, d), φ.c⟩) C C he rfl (fun _ _ => rfl) rfl rfl (tame_self h)
  rwa [List.take_length] at this
theorem rs_tryA (L : List Nat) (i : Nat) {tkB : Nat → Bool} {x n : PySem.Str} {c : Value} {body suite : List Stmt} {b₀ : Stmt} {np pos pos' : Pos} {b : Sm} {su : Nat → Sm} (hcl : cls.su = none)
    (hs : X.stack = X.env :: X.outer) (hf : X.env.frame = some X.env.locals) (hN : X.N.Nodup) (hi : X.N[i]? = some n) (hln : X.env.kindOf n = some .local) (hc : Names X x c) (tk : Takes X W)
    (hx : ∀ k, k ∈ L → PySem.W.exmOne X.K (.ref (cls k)) c = some (tkB k))
    (hb : ∀ (W : WX) (pn : List (Addr × Obj)) (xe : Value → Shared → Prop), Takes (X.tr pn xe) W → PassesOwn (model X.prog X.w) X.A X.env xe → RSs (X.tr pn xe) cls W body b) (gb : GrowS b)
    (hsu : ∀ (k : Nat) (a : Addr) (oe : Obj) (d : Option Addr) (pn : List (Addr × Obj)), k ∈ L → Zc (.ref (cls k)) d oe → (∃ vs, oe.data = .fields vs) → RSs (X.suite a ((a, oe) :: pn)) (cls.in a d) W0 (b₀ :: suite) (su k)) :
    RS X cls W (.Try body [.ExceptHandler (some (.Name x np)) (some n) (b₀ :: suite) pos'] [] [] pos) (sTryA L i tkB b su) := by
  refine ⟨(ps_try_as (Wout := W) (tb := fun W' => tS X.K cls W' b)
    (ts := fun a cv d D σ H => ∃ k φ h ρ, k ∈ L ∧ cv = .ref (cls k) ∧ At X.K (cls.in a d) φ h ρ σ H ∧ PostS X.K (cls.in a d) φ h.length H W0 D (su k ρ h))
    hs hf hN hi hln hc tk (fun W' pn xe tk' hp => (hb W' pn xe tk' hp).ps) (fun a oe cv d pn hz hv => ?_)).imp fun D σ H t => t.ok fun φ h ρ x p => ?_, growS_tryA gb⟩
  · -- the suite
    refine ⟨fun pins s σ H D I q => ?_⟩
    obtain ⟨k, φ, h, ρ, hk, rfl, x, q⟩ := q
    exact (hsu k a oe d pn hk hz hv).ps.run pins s σ H D I ⟨φ, h, ρ, x, q⟩
  · refine ⟨φ, h, ρ, x, ?_⟩
    have g := gb ρ h
    unfold sTryA at p
    revert p g
    cases b ρ h with
    | exc c1 p1 ρ1 h1 =>
      intro p g φ' d σ' H' e k x' r
      dsimp only at p
      split at p
      · rename_i hL
        refine ⟨tkB c1, hx c1 hL.1, fun ht a ha => ?_, fun ht => ?_⟩
        · rw [if_pos ht] at p
          have p' := PostS.later p e g k
          have he : φ'.e = none := x'.C.noe.trans hcl
          have S1 : Slots X.K ⟨φ'.f, some (a, d), φ'.c⟩ h1.length H' ρ1 σ' := ⟨x'.S.1, fun j w hw => by
            obtain ⟨v, hv, rv⟩ := x'.S.2 j w hw
            exact ⟨v, hv, rv.toErr he (a, d)⟩⟩
          have rE : VR X.K ⟨φ'.f, some (a, d), φ'.c⟩ h1.length H' (errOf p1) (.ref a) := by
            cases p1 with
            | none =>
              have r : d = none := r
              subst r
              exact .err rfl
            | some q =>
              obtain ⟨f, w⟩ := q
              obtain ⟨a', v, z1, z2, z3⟩ := r
              subst z1
              exact .errF rfl z2 (z3.toErr he (a, some a'))
          refine ⟨c1, ⟨φ'.f, some (a, d), φ'.c⟩, h1, ρ1.set i (some (errOf p1)), hL.1, rfl, ⟨x'.C.toErr he a d, S1.set rE⟩, ?_⟩
          · revert p'
            unfold onT
            cases su c1 (ρ1.set i (some (errOf p1))) h1 with
            | ret w2 h2 =>
              dsimp only
              split
              · rename_i hw
                intro p' φ2 v H2 e2 k2 C2 r2
                have C3 := Cells.less (cls' := cls) C2 x'.C he rfl (φ'' := ⟨φ2.f, none, φ2.c⟩) (fun _ _ => rfl) rfl hcl.symm hw.2
                have e3 : Ext φ' ⟨φ2.f, none, φ2.c⟩ h1.length := ⟨fun j hj => e2.ix j hj, he.symm, e2.cr⟩
                exact p' ⟨φ2.f, none, φ2.c⟩ v H2 e3 k2 C3 (VR.cut (φ := φ2) (φ' := ⟨φ2.f, none, φ2.c⟩) (fun _ _ => rfl) rfl r2 (Bd.pure hw.1))
              · exact fun p' => p'.elim
            | _ => exact fun p' => p'.elim
        · rw [if_neg (by rw [ht]; exact Bool.false_ne_true)] at p
          exact p φ' d σ' H' e k x' r
      · exact p.elim
    | nx _ _ => exact fun p g => p
    | bk _ _ => exact fun p g => p
    | ct _ _ => exact fun p g => p
    | ret _ _ => exact fun p g => p
    | stuck => exact fun p g => p
/-- .. except X: (no name) -/
theorem growS_tryO {L : List Nat} {tk : Nat → Bool} {b s : Sm} (gb : GrowS b) (gs : GrowS s) : GrowS (sTryO L tk b s) := fun ρ h => by
  have g := gb ρ h
  unfold sTryO
  revert g
  cases b ρ h with
  | exc c p ρ1 h1 =>
    intro g
    dsimp only
    split
    · split
      · have g2 := (gs ρ1 h1).le g
        revert g2
        cases s ρ1 h1 with
        | exc _ _ _ _ => exact fun _ => trivial
        | _ => exact fun g => g
      · exact g
    · trivial
  | _ => exact fun g => g
theorem rs_tryO (L : List Nat) {tkB : Nat → Bool} {x : PySem.Str} {c : Value} {body suite : List Stmt} {b₀ : Stmt} {np pos pos' : Pos} {b s : Sm}
    (hs : X.stack = X.env :: X.outer) (hf : X.env.frame = some X.env.locals) (hc : Names X x c) (tk : Takes X W)
    (hx : ∀ k, k ∈ L → PySem.W.exmOne X.K (.ref (cls k)) c = some (tkB k))
    (hb : ∀ (W : WX) (pn : List (Addr × Obj)) (xe : Value → Shared → Prop), Takes (X.tr pn xe) W → PassesOwn (model X.prog X.w) X.A X.env xe → RSs (X.tr pn xe) cls W body b) (gb : GrowS b)
    (hsu : ∀ (a : Addr) (oe : Obj) (d : Option Addr) (pn : List (Addr × Obj)), RSs (X.suite a ((a, oe) :: pn)) cls W0 (b₀ :: suite) s) (gs : GrowS s) :
    RS X cls W (.Try body [.ExceptHandler (some (.Name x np)) none (b₀ :: suite) pos'] [] [] pos) (sTryO L tkB b s) := by
  refine ⟨(ps_try_only (Wout := W) (tb := fun W' => tS X.K cls W' b) (ts := fun a cv d => tS X.K cls W0 s)
    hs hf hc tk (fun W' pn xe tk' hp => (hb W' pn xe tk' hp).ps) (fun a oe cv d pn hz hv => (hsu a oe d pn).ps)).imp fun D σ H t => t.ok fun φ h ρ x p => ?_, growS_tryO gb gs⟩
  refine ⟨φ, h, ρ, x, ?_⟩
  have g := gb ρ h
  unfold sTryO at p
  revert p g
  cases b ρ h with
  | exc c1 p1 ρ1 h1 =>
    intro p g φ' d σ' H' e k x' r
    dsimp only at p
    split at p
    · rename_i hL
      refine ⟨tkB c1, hx c1 hL, fun ht a ha => ?_, fun ht => ?_⟩
      · rw [if_pos ht] at p
        have p' := PostS.later p e g k
        refine ⟨φ', h1, ρ1, x', ?_⟩
        revert p'
        cases s ρ1 h1 with
        | exc _ _ _ _ => exact fun p' => p'.elim
        | _ => exact fun p' => p'
      · rw [if_neg (by rw [ht]; exact Bool.false_ne_true)] at p
        exact p φ' d σ' H' e k x' r
    · exact p.elim
  | nx _ _ => exact fun p g => p
  | bk _ _ => exact fun p g => p
  | ct _ _ => exact fun p g => p
  | ret _ _ => exact fun p g => p
  | stuck => exact fun p g => p
/-! ### isinstance of the caught error -/
theorem er_at {K : PySem.W.Frag} {a : Addr} {d : Option Addr} {φ : Phi} {h : Hs} {ρ : Env} {σ : L2.St} {H : Hp} {i : Nat} (x : At K (cls.in a d) φ h ρ σ H) {w : PF.W} (e : ρ[i]? = some (some w)) (hw : w = .err ∨ ∃ f u, w = .errF f u) : σ[i]? = some (some (.ref a)) ∧ (d = none ∨ ∃ (dd : Addr) (f : List Nat) (v : V) (u : PF.W), w = .errF f u ∧ d = some dd ∧ H dd = some (.xd [(sS f, v)]) ∧ VR K φ h.length H u v) := by
  obtain ⟨v, hv, r⟩ := x.S.2 i _ e
  rcases hw with rfl | ⟨f, u, rfl⟩
  · cases r with
    | err h =>
      rw [x.C.noe] at h
      cases h
      exact ⟨hv, .inl rfl⟩
  · cases r with
    | errF h z r =>
      rw [x.C.noe] at h
      cases h
      exact ⟨hv, .inr ⟨_, _, _, _, rfl, rfl, z, r⟩⟩
theorem gr_er (i : Nat) (b : Bool) : Grow (dEr i b) := fun ρ h => by
  unfold dEr
  split
  · exact Nat.le_refl _
  · exact Nat.le_refl _
  · trivial
theorem gr_fd (i : Nat) (f : List Nat) : Grow (dFd i f) := fun ρ h => by
  unfold dFd
  split
  · split
    · exact Nat.le_refl _
    · trivial
  · trivial
end
end PF
namespace PF
open PySem PySem.Spec PyProof.Rows L2
/-! ### a def at hand, as its callers want it -/
structure FnAt (P : Program) (w : World) (K : PySem.W.Frag) (mg : PySem.Str → Option Value) (base : Heap) (cls : Cl) (x : PySem.Str) (k : Nat) (fn : Fn) : Prop where
  ex : ∃ (f : Addr) (fd : FuncData) (ps : List PySem.Str), FnOk P w K mg base (L2.CX P w) k f fd ps (SpI K cls fn) ∧ mg x = some (.ref f) ∧ PySem.W.keepIn K (.ref f) = true ∧ Binds K fd ps []
  g : GrC fn
/-- a def as the top has left it -/
structure RawFn (K : PySem.W.Frag) (mg : PySem.Str → Option Value) (x : PySem.Str) (st : Stmt) (ps : List PySem.Str) (f : Addr) (fd : FuncData) : Prop where
  F : FunX K x x st f fd
  m : mg x = some (.ref f)
  b : Binds K fd ps []
section
variable {P : Program} {w : World} {K : PySem.W.Frag} {mg : PySem.Str → Option Value} {base : Heap} {cls : Cl}
theorem FnAt.mkE {x : PySem.Str} {st : Stmt} {N ps : List PySem.Str} {k : Nat} {b : Sm} {en : Hs → Res PF.W → Res PF.W} {f : Addr} {fd : FuncData} (R : RawFn K mg x st ps f fd) (S : FnScope N ps (defScope st)) (ee : EndOK K cls en) (hle : ps.length ≤ N.length) (ge : GrC fun ws h => en h (mkF ps.length N.length b ws h))
    (hbody : ∀ (cdv : Value) (A : Around) (outer : List PySem.Env) (s : Shared) (H : Hp) (E : XK), Room k (A.deeper (envOfC x (defScope st) s.heap.objs.size f cdv)) →
      Takes (cxOf (L2.CX P w) P w K mg base N x (defScope st) f cdv A outer s H E) (fun cls d _ H => E cls d H) →
      PassesOwn (model P w) (cxOf (L2.CX P w) P w K mg base N x (defScope st) f cdv A outer s H E).A (cxOf (L2.CX P w) P w K mg base N x (defScope st) f cdv A outer s H E).env (cxOf (L2.CX P w) P w K mg base N x (defScope st) f cdv A outer s H E).xe →
      RSs (cxOf (L2.CX P w) P w K mg base N x (defScope st) f cdv A outer s H E) cls (fun cls d _ H => E cls d H) (defBody st) b) : FnAt P w K mg base cls x (k + 1) (fun ws h => en h (mkF ps.length N.length b ws h)) :=
  ⟨⟨f, fd, ps, fn_ok R.F S ee hle fun cdv A outer s H E hr => hbody cdv A outer s H E hr (takes_of rfl rfl rfl rfl) (passes_of rfl), R.m, R.F.kp, R.b⟩, ge⟩
theorem FnAt.mono {x : PySem.Str} {j k : Nat} {fn : Fn} (F : FnAt P w K mg base cls x j fn) (h : j ≤ k) : FnAt P w K mg base cls x k fn :=
  let ⟨⟨f, fd, ps, h1, h2, h3, h4⟩, g⟩ := F
  ⟨⟨f, fd, ps, h1.mono h, h2, h3, h4⟩, g⟩
end
section
variable {X : Cx} {cls : Cl} {W : WX}
theorem re_fn {k : Nat} {fn : Fn} {x : PySem.Str} {p pos : Pos} {e : Expr} {es : List Expr} {as : As} (F : FnAt X.prog X.w X.K X.mg X.base cls x k fn) (tk : Takes X W) (hr : Room k X.A) (hg : Gl X x) (ha : RA X cls W (e :: es) as) (hdb : (x == ("__debug__" : PySem.Str)) = false := by decide)
    (he : starEach (e :: es) X.env = (false, eval e X.env) :: starEach es X.env := by rfl) (hpl : (backTo pos (starEach es X.env)).any (·.1) = false := by rfl) : RE X cls W (.Call (.Name x p) (e :: es) [] pos) (dCall fn as) := by
  obtain ⟨⟨f, fd, ps, h1, h2, h3, h4⟩, g⟩ := F
  exact re_call h1 g tk hr hg h2 h3 h4 ha hdb he hpl
theorem isN_imp {d : PF.D} (gd : Grow d) {σ : L2.St} {H : Hp} {Q : VK} (t : tG X.K cls (rW X.K) W (dUn oIsN d) σ H Q) : tIsN (tG X.K cls (rW X.K) W d) σ H Q :=
  t.ok fun φ h ρ x p => x.first (gd ρ h) p fun v H1 φ1 w1 h1 g1 x1 p1 => by
    have q := rO_ok g1.C p1 (.bl _)
    rw [vr_non g1.r] at q
    exact q
theorem notN_imp {d : PF.D} (gd : Grow d) {σ : L2.St} {H : Hp} {Q : VK} (t : tG X.K cls (rW X.K) W (dUn oNotN d) σ H Q) : tNotN (tG X.K cls (rW X.K) W d) σ H Q :=
  t.ok fun φ h ρ x p => x.first (gd ρ h) p fun v H1 φ1 w1 h1 g1 x1 p1 => by
    have q := rO_ok g1.C p1 (.bl _)
    rw [vr_non g1.r] at q
    exact q
theorem rt_isN {a : Expr} {j : Tok} {p pos : Pos} {d : PF.D} (he : RE X cls W a d) : RT X cls W (.Compare a [.Is] [.Constant .none j p] pos) (tVal (dUn oIsN d)) :=
  ⟨(pt_cmp (pc_isN he.pe) rfl).imp fun σ H Q t => isN_imp he.g (t.val (grow_un g_isN he.g)), grow_val (grow_un g_isN he.g)⟩
theorem rt_notN {a : Expr} {j : Tok} {p pos : Pos} {d : PF.D} (he : RE X cls W a d) : RT X cls W (.Compare a [.IsNot] [.Constant .none j p] pos) (tVal (dUn oNotN d)) :=
  ⟨(pt_cmp (pc_notN he.pe) rfl).imp fun σ H Q t => notN_imp he.g (t.val (grow_un g_notN he.g)), grow_val (grow_un g_notN he.g)⟩
theorem rt_chain {op op' : CmpOp} {o o' : PF.W → PF.W → Hs → Res PF.W} {a b c : Expr} {da db dc : PF.D} {pos : Pos} (ho : OpR X (compareOp op) (rO X.K cls o)) (go : GrO o) (ho' : OpR X (compareOp op') (rO X.K cls o')) (go' : GrO o') (ha : RE X cls W a da) (hb : RE X cls W b db) (hc : RE X cls W c dc)
    (hm : lastMarks [op, op'] [b, c] = false := by with_unfolding_all rfl) : RT X cls W (.Compare a [op, op'] [b, c] pos) (tVal (dChain o o' da db dc)) :=
  have hg := grow_chain go go' ha.g hb.g hc.g
  ⟨(pt_chain ho ho' ha.pe hb.pe hc.pe hm).imp fun σ H Q t => chain_imp go go' ha.g hb.g hc.g (t.val hg), grow_val hg⟩
/-- x op= e, whole numbers -/
theorem rs_augI (i : Nat) {op : Operator} {f : Int → Int → Int} {o : PF.W → PF.W → Hs → Res PF.W} {x : PySem.Str} {e : Expr} {pos pos' : Pos} {d : PF.D} (hN : X.N.Nodup) (hi : X.N[i]? = some x) (hx : Loc X.env.scope x) (he : RE X cls W e d) (hI : PIp X op (ipI f)) (go : GrO o)
    (ho : ∀ (w u : PF.W) (h : Hs), o w u h = .stuck ∨ ∃ i j, w = .int i ∧ u = .int j ∧ o w u h = .ok (.int (f i j)) h)
    (hf : X.fn x = true ∨ X.env.scope.names.lookup x = some .local := by first | exact .inl rfl | exact .inr rfl | assumption) : RS X cls W (.AugAssign (.Name x pos') op e pos) (sAug i o d) := by
  refine ⟨(ps_aug hN hi hx he.pe hI hf).imp fun D σ H t => t.ok fun φ h ρ x p => ?_, fun ρ h => ?_⟩
  · unfold sAug at p
    split at p
    · rename_i w0 e0
      obtain ⟨v0, hv0, r0⟩ := x.S.2 i w0 e0
      refine ⟨v0, hv0, φ, h, ρ, x, ?_⟩
      have g := he.g ρ h
      revert p g
      cases d ρ h with
      | exc c y h1 => exact fun p g φ' d H' e k C r => p φ' d σ H' e k ⟨C, x.S.mono e g k⟩ r
      | stuck => exact fun p _ => p
      | ok w1 h1 =>
        intro p g φ' v H' e k C r
        rcases ho w0 w1 h1 with z | ⟨a, b, rfl, rfl, z⟩
        · rw [Res.bind_ok, z] at p
          exact p.elim
        · rw [Res.bind_ok, z] at p
          cases r0
          cases r
          exact ⟨a, b, rfl, rfl, p φ' _ H' e k ⟨C, (x.S.mono e g k).set (.int _)⟩⟩
    · exact p.elim
  · unfold sAug
    split
    · exact growsS.onR ((he.g ρ h).bind fun y h1 _ l => (go _ y h1).le l) fun w h1 _ l => l
    · trivial
theorem g_addI : GrO oAddI := fun w u h => by
  unfold oAddI
  split <;> first | exact Nat.le_refl _ | trivial
theorem addI_or (w u : PF.W) (h : Hs) : oAddI w u h = .stuck ∨ ∃ i j, w = .int i ∧ u = .int j ∧ oAddI w u h = .ok (.int (i + j)) h := by
  unfold oAddI
  split
  · exact .inr ⟨_, _, rfl, rfl, rfl⟩
  · exact .inl rfl
theorem subI_or (w u : PF.W) (h : Hs) : oSub w u h = .stuck ∨ ∃ i j, w = .int i ∧ u = .int j ∧ oSub w u h = .ok (.int (i - j)) h := by
  unfold oSub
  split
  · exact .inr ⟨_, _, rfl, rfl, rfl⟩
  · exact .inl rfl
end
end PF
namespace PF
open PySem PySem.Spec PyProof.Rows L2
/-! ### the store grows -/
section
variable {a b c d : PF.D} {t u : T} {as : As} {s r : Sm} {it : PF.I}
theorem gr_v (i : Nat) : Grow (dV i) := fun ρ h => by
  unfold dV
  split
  · exact Nat.le_refl _
  · trivial
theorem gr_and (ga : Grow a) (gb : Grow b) : Grow (dAnd a b) := fun ρ h => (ga ρ h).bind fun x h1 _ l1 => asB_grows fun c => by
  split
  · exact (gb ρ h1).le l1
  · exact l1
theorem gr_or (ga : Grow a) (gb : Grow b) : Grow (dOr a b) := fun ρ h => (ga ρ h).bind fun x h1 _ l1 => asB_grows fun c => by
  split
  · exact l1
  · exact (gb ρ h1).le l1
theorem gr_not (ga : Grow a) : Grow (dNot a) := fun ρ h => (ga ρ h).bind fun x h1 _ l1 => asB_grows fun c => l1
theorem gr_tand (ga : Grow t) (gb : Grow u) : Grow (PF.tAnd t u) := fun ρ h => (ga ρ h).bind fun x h1 _ l1 => by
  split
  · exact (gb ρ h1).le l1
  · exact l1
theorem gr_tor (ga : Grow t) (gb : Grow u) : Grow (PF.tOr t u) := fun ρ h => (ga ρ h).bind fun x h1 _ l1 => by
  split
  · exact l1
  · exact (gb ρ h1).le l1
theorem gr_tnot (ga : Grow t) : Grow (PF.tNot t) := fun ρ h => (ga ρ h).bind fun x h1 _ l1 => l1
theorem gr_yes : Grow PF.tYes := fun _ _ => Nat.le_refl _
theorem gr_if (gt : Grow t) (ga : Grow a) (gb : Grow b) : Grow (dIf t a b) := fun ρ h => (gt ρ h).bind fun x h1 _ l1 => by
  split
  · exact (ga ρ h1).le l1
  · exact (gb ρ h1).le l1
theorem gr_nil : Grow aNil := fun _ _ => Nat.le_refl _
theorem gr_cons (ga : Grow a) (gs : Grow as) : Grow (aCons a as) := fun ρ h => (ga ρ h).bind fun x h1 _ l1 => ((gs ρ h1).le l1).bind fun y h2 _ l2 => l2
theorem gr_tup (gs : Grow as) : Grow (dTup as) := fun ρ h => (gs ρ h).bind fun x h1 _ l1 => by
  split
  · exact l1
  · trivial
theorem gr_lst (gs : Grow as) : Grow (dLst as) := fun ρ h => (gs ρ h).bind fun x h1 _ l1 => by
  split
  · exact (newL_grows _ _).le l1
  · trivial
theorem gr_pno : Grow pNo := fun _ _ => Nat.le_refl _
theorem gr_pat (ga : Grow a) : Grow (pAt a) := fun ρ h => (ga ρ h).bind fun w h1 _ l => by split <;> first | exact l | trivial
theorem gr_sl {l r : PF.P} (ga : Grow a) (gl : Grow l) (gu : Grow r) : Grow (dSl a l r) := fun ρ h => (ga ρ h).bind fun w h1 _ l1 => ((gl ρ h1).le l1).bind fun x h2 _ l2 => ((gu ρ h2).le l2).bind fun y h3 _ l3 => (g_sl w x y h3).le l3
theorem gi_lst (ga : Grow a) : Grow (iLst a) := grow_lstOf ga fun _ _ _ => Nat.le_refl _
theorem gi_enum (ga : Grow a) : Grow (PF.iEnum a) := grow_lstOf ga fun _ _ _ => Nat.le_refl _
theorem gi_rev (ga : Grow a) : Grow (PF.iRev a) := grow_lstOf ga fun _ _ _ => Nat.le_refl _
theorem gi_tup (ga : Grow a) : Grow (PF.iTup a) := fun ρ h => (ga ρ h).bind fun w h1 _ l => by split <;> first | exact l | trivial
theorem gi_str (ga : Grow a) : Grow (PF.iStr a) := fun ρ h => (ga ρ h).bind fun w h1 _ l => by split <;> first | exact l | trivial
theorem gi_rng1 (ga : Grow a) : Grow (PF.iRng1 a) := fun ρ h => (ga ρ h).bind fun w h1 _ l => by
  split
  · split
    · exact l
    · trivial
  · trivial
theorem gi_rng2 (ga : Grow a) (gb : Grow b) : Grow (PF.iRng2 a b) := fun ρ h => (ga ρ h).bind fun w h1 _ l => ((gb ρ h1).le l).bind fun w h1 _ l => by
  split
  · split
    · exact l
    · trivial
  · trivial
theorem gi_zip (ga : Grow a) (gb : Grow b) : Grow (PF.iZip a b) := fun ρ h => (ga ρ h).bind fun w h1 _ l => ((gb ρ h1).le l).bind fun w h1 _ l => by
  split
  · exact l
  · trivial
/-! statements -/
theorem gs_nx : GrowS sNx := fun _ _ => Nat.le_refl _
theorem gs_brk : GrowS sBrk := fun _ _ => Nat.le_refl _
theorem gs_cnt : GrowS sCnt := fun _ _ => Nat.le_refl _
theorem gs_retN : GrowS sRetN := fun _ _ => Nat.le_refl _
theorem gs_raise (c : Nat) : GrowS (sRaise c) := fun _ _ => Nat.le_refl _
theorem gs_seq (gs : GrowS s) (gr : GrowS r) : GrowS (sSeq s r) := fun ρ h => by
  have g1 := gs ρ h
  unfold sSeq
  revert g1
  cases s ρ h with
  | nx ρ1 h1 => exact fun g1 => (gr ρ1 h1).le g1
  | _ => exact fun g => g
theorem gs_exp (ga : Grow a) : GrowS (sExp a) := fun ρ h => growsS.onR (ga ρ h) fun w h1 _ l => l
theorem gs_ret (ga : Grow a) : GrowS (sRet a) := fun ρ h => growsS.onR (ga ρ h) fun w h1 _ l => l
theorem gs_asg {g : Tg} (ga : Grow a) : GrowS (sAsg a g) := grow_asg ga
theorem gs_aug {i : Nat} {o : PF.W → PF.W → Hs → Res PF.W} (go : GrO o) (ga : Grow a) : GrowS (sAug i o a) := fun ρ h => by
  unfold sAug
  split
  · exact growsS.onR ((ga ρ h).bind fun y h1 _ l => (go _ y h1).le l) fun w h1 _ l => l
  · trivial
theorem gs_if (gt : Grow t) (gs : GrowS s) (gr : GrowS r) : GrowS (sIf t s r) := fun ρ h => growsS.onR (gt ρ h) fun c h1 _ l => by
  split
  · exact (gs ρ h1).le l
  · exact (gr ρ h1).le l
theorem gs_while (gt : Grow t) (gs : GrowS s) : GrowS (sWhile t s) := grow_while gt gs _
theorem gs_for {g : Tg} (gi : Grow it) (gs : GrowS s) : GrowS (sFor it g s) := fun ρ h => growsS.onR (gi ρ h) fun J h1 _ l => (grow_forL gs _ ρ h1).le l
end
/-! ### built-in names -/
theorem boot_abs : bootBuiltins "abs" = some (.builtin "abs") := by decide +kernel
theorem boot_len : bootBuiltins "len" = some (.builtin "len") := by decide +kernel
theorem boot_divmod : bootBuiltins "divmod" = some (.builtin "divmod") := by decide +kernel
theorem boot_max : bootBuiltins "max" = some (.builtin "max") := by decide +kernel
theorem boot_min : bootBuiltins "min" = some (.builtin "min") := by decide +kernel
theorem boot_sum : bootBuiltins "sum" = some (.builtin "sum") := by decide +kernel
theorem boot_all : bootBuiltins "all" = some (.builtin "all") := by decide +kernel
theorem boot_any : bootBuiltins "any" = some (.builtin "any") := by decide +kernel
theorem boot_sorted : bootBuiltins "sorted" = some (.builtin "sorted") := by decide +kernel
theorem boot_isinstance : bootBuiltins "isinstance" = some (.builtin "isinstance") := by decide +kernel
theorem boot_int : bootBuiltins "int" = some (.type "int") := by decide +kernel
theorem boot_bool : bootBuiltins "bool" = some (.type "bool") := by decide +kernel
theorem boot_str : bootBuiltins "str" = some (.type "str") := by decide +kernel
theorem boot_tuple : bootBuiltins "tuple" = some (.type "tuple") := by decide +kernel
theorem boot_list : bootBuiltins "list" = some (.type "list") := by decide +kernel
theorem boot_set : bootBuiltins "set" = some (.type "set") := by decide +kernel
theorem boot_ValueError : bootBuiltins "ValueError" = some (.type "ValueError") := by decide +kernel
end PF
namespace PF
open PySem PySem.Spec PyProof.Rows L2
section
variable {X : Cx} {cls : Cl} {W : WX}
/-! ### methods -/
theorem kd_lst {K : PySem.W.Frag} {φ : Phi} {h : Hs} {H : Hp} {w : PF.W} {v : V} (C : Cells K cls φ h H) (r : VR K φ h.length H w v) (e : kdOf w h = some .lst) : tyV K "list" v H := by
  cases r with
  | fl q _ => exact .inl ⟨rfl, _, q.l⟩
  | @ref i hi =>
    unfold kdOf at e
    dsimp only at e
    split at e
    · rename_i ws ei
      obtain ⟨vs, h1, _⟩ := C.cell _ _ ei
      exact .inl ⟨rfl, vs, .of h1⟩
    · cases e
    · cases e
    · cases e
  | _ => cases e
theorem kd_str {K : PySem.W.Frag} {φ : Phi} {n : Nat} {h : Hs} {H : Hp} {w : PF.W} {v : V} (r : VR K φ n H w v) (e : kdOf w h = some .str) : tyV K "str" v H := by
  cases r with
  | str s _ => exact rfl
  | @ref i hi =>
    unfold kdOf at e
    dsimp only at e
    split at e <;> cases e
  | _ => cases e
theorem kd_dct {K : PySem.W.Frag} {φ : Phi} {h : Hs} {H : Hp} {w : PF.W} {v : V} (C : Cells K cls φ h H) (r : VR K φ h.length H w v) (e : kdOf w h = some .dct) : tyV K "dict" v H := by
  cases r with
  | @ref i hi =>
    unfold kdOf at e
    dsimp only at e
    split at e
    · cases e
    · rename_i ws ei
      obtain ⟨vs, h1, _⟩ := C.cell _ _ ei
      exact .inr (.inr (.inl ⟨rfl, .inl ⟨vs, h1⟩⟩))
    · cases e
    · cases e
  | _ => cases e
def rM (K : PySem.W.Frag) (cls : Cl) (m : PF.W → List PF.W → Hs → Res PF.W) : V → List V → Hp → VK → Prop := fun x xs H Q => ∃ φ h w ws E, Cells K cls φ h H ∧ VR K φ h.length H w x ∧ VRs K φ h.length H ws xs ∧ Post K cls (rW K) φ h.length H E Q (m w ws h)
def GrM (m : PF.W → List PF.W → Hs → Res PF.W) : Prop := ∀ w ws h, grows h.length (m w ws h)
theorem gr_met {k : Kd} {m : PF.W → List PF.W → Hs → Res PF.W} {a : PF.D} {as : As} (gm : GrM m) (ga : Grow a) (gs : Grow as) : Grow (dMeth k m a as) := fun ρ h => (ga ρ h).bind fun x h1 _ l1 => by
  split
  · exact ((gs ρ h1).le l1).bind fun xs h2 _ l2 => (gm x xs h2).le l2
  · trivial
def Kd.nm : Kd → String
  | .lst => "list"
  | .str => "str"
  | .dct => "dict"
theorem kd_ty {K : PySem.W.Frag} {φ : Phi} {h : Hs} {H : Hp} {w : PF.W} {v : V} {k : Kd} (C : Cells K cls φ h H) (r : VR K φ h.length H w v) (e : kdOf w h = some k) : tyV K k.nm v H := by
  cases k with
  | lst => exact kd_lst C r e
  | str => exact kd_str r e
  | dct => exact kd_dct C r e
theorem met_imp {k : Kd} {m : PF.W → List PF.W → Hs → Res PF.W} {a : PF.D} {as : As} (ga : Grow a) (gs : Grow as) {σ : L2.St} {H : Hp} {Q : VK} (t : tG X.K cls (rW X.K) W (dMeth k m a as) σ H Q) :
    tG X.K cls (rW X.K) W a σ H fun x H1 => tyV X.K k.nm x H1 ∧ tG X.K cls (rWs X.K) W as σ H1 fun xs H2 => rM X.K cls m x xs H2 Q :=
  t.ok fun φ h ρ x p => x.first (ga ρ h) p fun v H1 φ1 w1 h1 g1 x1 p1 => by
    split at p1
    · rename_i e
      exact ⟨kd_ty g1.C g1.r e, x1.first (gs ρ h1) p1 fun vs H2 φ2 ws h2 g2 x2 p2 => ⟨φ2, h2, w1, ws, _, g2.C, VR.mono g2.e g2.l g2.k g1.r, g2.r, p2⟩⟩
    · exact p1.elim
theorem re_met {k : Kd} {m : PF.W → List PF.W → Hs → Res PF.W} {o e : Expr} {es : List Expr} {name : PySem.Str} {id : String} {apos cpos : Pos} {a : PF.D} {as : As} (pa : PlainAttrs k.nm) (slot : Slot k.nm name id) (hty : typeOf (.builtin id) = pure (.type "method_descriptor")) (hm : MtR X id (rM X.K cls m)) (gm : GrM m)
    (ho : RE X cls W o a) (ha : RA X cls W (e :: es) as) (hbase : attributeBase o name X.env (eval o X.env) = eval o X.env := by rfl)
    (hfew : ((backTo cpos (starEach (e :: es) X.env)).all (fun x => !x.1) && (backToKw cpos (keywordEach [] X.env)).all (fun x => x.1.isSome)
      && decide ((e :: es).length + ([] : List Keyword).length + (if ([] : List Keyword).isEmpty then 0 else 1) < 30)) = true := by rfl)
    (hline : (apos.endLine == cpos.line) = true := by rfl) (hs : starEach (e :: es) X.env = (false, eval e X.env) :: starEach es X.env := by rfl) (hplain : (backTo cpos (starEach es X.env)).any (·.1) = false := by rfl) : RE X cls W (.Call (.Attribute o name apos) (e :: es) [] cpos) (dMeth k m a as) :=
  ⟨(pe_bm pa slot hty hm ho.pe ha.pa hbase hfew hline hs hplain).imp fun σ H Q t => met_imp ho.g ha.g t, gr_met gm ho.g ha.g⟩
theorem re_met0 {k : Kd} {m : PF.W → List PF.W → Hs → Res PF.W} {o : Expr} {name : PySem.Str} {id : String} {apos cpos : Pos} {a : PF.D} (pa : PlainAttrs k.nm) (slot : Slot k.nm name id) (hty : typeOf (.builtin id) = pure (.type "method_descriptor")) (hm : MtR X id (rM X.K cls m)) (gm : GrM m)
    (ho : RE X cls W o a) (hbase : attributeBase o name X.env (eval o X.env) = eval o X.env := by rfl) (hline : (apos.endLine == cpos.line) = true := by rfl) : RE X cls W (.Call (.Attribute o name apos) [] [] cpos) (dMeth k m a aNil) :=
  ⟨(pe_bm0 pa slot hty hm ho.pe hbase hline).imp fun σ H Q t => (met_imp ho.g gr_nil t).mono fun x H1 ⟨h1, h2⟩ => ⟨h1, by
    obtain ⟨φ, h, ρ, x, p⟩ := h2
    exact p φ [] H1 (Ext.refl _ _) (Keep.refl _) x.C .nil⟩, gr_met gm ho.g gr_nil⟩
/-- a list changed: what is wanted behind -/
theorem post_set {K : PySem.W.Frag} {φ : Phi} {h : Hs} {H : Hp} {E : XK} {Q : VK} {i : Nat} {ws ws' : List PF.W} {vs vs' : List V} {w : PF.W} {v : V} (C : Cells K cls φ h H) (ei : h[i]? = some (.lst ws)) (hv : H (φ i) = some (.lst vs)) (r : VRs K φ h.length H ws' vs') (rw' : VR K φ h.length H w v)
    (p : Post K cls (rW K) φ h.length H E Q (.ok w (h.set i (.lst ws')))) : Q v (upd H (φ i) (.lst vs')) := by
  have hi : i < h.length := (List.getElem?_eq_some_iff.mp ei).1
  have kk : Keep H (upd H (φ i) (.lst vs')) := keep_set hv fun z => z
  refine p φ v _ (Ext.refl _ _) kk (C.chg hi ⟨vs', upd_same, r.mono (Ext.refl _ _) (Nat.le_refl _) kk⟩) ?_
  have : VR K φ h.length (upd H (φ i) (.lst vs')) w v := rw'.mono (Ext.refl _ _) (Nat.le_refl _) kk
  show VR K φ (h.set i (.lst ws')).length _ w v
  rw [List.length_set]
  exact this
theorem m_append : MtR X "list.append" (rM X.K cls mAppend) := by
  rintro pins s σ H x xs v us Q I rx rs ⟨φ, h, w, ws, E, C, r, t, p⟩
  unfold mAppend at p
  split at p
  · split at p
    · rename_i ws' ei
      split at p
      · rename_i hl
        cases r with
        | ref hi =>
          cases t with
          | cons t1 tt =>
            cases tt
            obtain ⟨vs, hv1, hv2⟩ := C.cell _ _ ei
            exact mt_append pins s σ H _ _ v us Q I rx rs ⟨_, vs, _, rfl, rfl, hv1, by rw [← hv2.length, ← bigL_eq]; exact hl, post_set C ei hv1 (hv2.snoc t1) .non p⟩
      · exact p.elim
    · exact p.elim
  · exact p.elim
theorem gm_append : GrM mAppend := fun w ws h => by
  unfold mAppend
  split
  · split
    · split
      · show h.length ≤ (h.set _ _).length
        rw [List.length_set]
        exact Nat.le_refl _
      · trivial
    · trivial
  · trivial
theorem m_clear : MtR X "list.clear" (rM X.K cls mClear) := by
  rintro pins s σ H x xs v us Q I rx rs ⟨φ, h, w, ws, E, C, r, t, p⟩
  unfold mClear at p
  split at p
  · split at p
    · rename_i ws' ei
      cases r with
      | ref hi =>
        cases t
        obtain ⟨vs, hv1, hv2⟩ := C.cell _ _ ei
        exact mt_clear pins s σ H _ _ v us Q I rx rs ⟨_, vs, rfl, rfl, hv1, post_set C ei hv1 .nil .non p⟩
    · exact p.elim
  · exact p.elim
theorem gm_clear : GrM mClear := fun w ws h => by
  unfold mClear
  split
  · split
    · show h.length ≤ (h.set _ _).length
      rw [List.length_set]
      exact Nat.le_refl _
    · trivial
  · trivial
theorem m_pop : MtR X "list.pop" (rM X.K cls mPop) := by
  rintro pins s σ H x xs v us Q I rx rs ⟨φ, h, w, ws, E, C, r, t, p⟩
  unfold mPop at p
  split at p
  · split at p
    · rename_i ws' ei
      split at p
      · rename_i y ey
        cases r with
        | ref hi =>
          cases t
          obtain ⟨vs, hv1, hv2⟩ := C.cell _ _ ei
          obtain ⟨u, hu, ru⟩ := hv2.get ey
          rw [hv2.length] at hu
          exact mt_pop pins s σ H _ _ v us Q I rx rs ⟨_, vs, u, rfl, rfl, hv1, hu, post_set C ei hv1 hv2.dropLast ru p⟩
      · exact p.elim
    · exact p.elim
  · exact p.elim
theorem gm_pop : GrM mPop := fun w ws h => by
  unfold mPop
  split
  · split
    · split
      · show h.length ≤ (h.set _ _).length
        rw [List.length_set]
        exact Nat.le_refl _
      · trivial
    · trivial
  · trivial
theorem m_extend : MtR X "list.extend" (rM X.K cls mExtend) := by
  rintro pins s σ H x xs v us Q I rx rs ⟨φ, h, w, ws, E, C, r, t, p⟩
  unfold mExtend at p
  split at p
  · split at p
    · rename_i wa ei
      split at p
      · rename_i hl
        cases r with
        | ref hi =>
          cases t with
          | cons t1 tt =>
            cases tt
            cases t1 with
            | fl qf tf =>
              obtain ⟨vs, hv1, hv2⟩ := C.cell _ _ ei
              cases rx
              obtain ⟨u1, rfl, ru⟩ := rs.one
              cases ru
              obtain ⟨_, its, n, r, hlen, e⟩ := I.lstM hv1
              obtain ⟨its2, r2, e2, _⟩ := I.list qf.l
              obtain ⟨n2, sl2, e2⟩ := plain_obj e2
              have hl2 := r2.length
              have g1 := hv2.length
              have g2 := tf.length
              have hb : its.toArray.size + its2.toArray.size ≤ sizeLine := by rw [List.size_toArray, List.size_toArray, ← bigL_eq]; omega
              have hlong : ¬ (!its.toArray.isEmpty && Builtin.List.listTooLong (its.toArray.size + its2.toArray.size)) = true := by
                rw [notLongL hb, Bool.and_false]
                exact Bool.false_ne_true
              refine call_meets F.slot_list_extend ⟨_, e, rfl⟩ F.entry_list_extend (F.args_list_extend_2 _ _) (meets_extW _ _ its.toArray its2.toArray n n2 sl2 hb hlong (by omega)) ⟨e, e2, ?_⟩
              refine ⟨.non, _, I.lset (its' := its ++ its2) hv1 e (by simp) (r.append r2) ?_, rfl, post_set C ei hv1 (hv2.append tf) .non p⟩
              rw [List.length_append]
              rw [List.size_toArray, List.size_toArray] at hb
              omega
      · exact p.elim
    · exact p.elim
  · split at p
    · rename_i wa wb ei ej
      split at p
      · rename_i hl
        cases r with
        | ref hi =>
          cases t with
          | cons t1 tt =>
            cases tt
            cases t1 with
            | ref hj =>
              obtain ⟨vs, hv1, hv2⟩ := C.cell _ _ ei
              obtain ⟨us', hu1, hu2⟩ := C.cell _ _ ej
              exact mt_extend pins s σ H _ _ v us Q I rx rs ⟨_, _, vs, us', rfl, rfl, hv1, hu1, by rw [← hv2.length, ← hu2.length, ← bigL_eq]; exact hl, post_set C ei hv1 (hv2.append hu2) .non p⟩
      · exact p.elim
    · exact p.elim
  · exact p.elim
theorem gm_extend : GrM mExtend := fun w ws h => by
  unfold mExtend
  split
  · split
    · split
      · show h.length ≤ (h.set _ _).length
        rw [List.length_set]
        exact Nat.le_refl _
      · trivial
    · trivial
  · split
    · split
      · show h.length ≤ (h.set _ _).length
        rw [List.length_set]
        exact Nat.le_refl _
      · trivial
    · trivial
  · trivial
/-! ### o[i] = e -/
theorem KR.mapput {K : PySem.W.Frag} {φ : Phi} {n : Nat} {H : Hp} {k : Key} {w : PF.W} {v : V} (ok : okK k) (q : VR K φ n H w v) : ∀ {kvs : List (Key × PF.W)} {ks : List (L2.Key × V)}, KR K φ n H kvs ks → KR K φ n H (kvs.map fun p => if p.1 = k then (p.1, w) else p) (ks.map fun p => if p.1 = keyV k then (p.1, v) else p)
  | [], _, .nil => .nil
  | p0 :: kvs, _, .cons (b := q0) r0 t => by
    rw [List.map_cons, List.map_cons]
    refine .cons ?_ (KR.mapput ok q t)
    by_cases z : p0.1 = k
    · rw [if_pos z, if_pos (by rw [r0.1.1, z])]
      exact ⟨r0.1, q⟩
    · rw [if_neg z, if_neg (fun y => z (keyV_inj (r0.1.1.symm.trans y)))]
      exact r0
theorem KR.snocput {K : PySem.W.Frag} {φ : Phi} {n : Nat} {H : Hp} {k : Key} {w : PF.W} {v : V} (ok : okK k) (q : VR K φ n H w v) : ∀ {kvs : List (Key × PF.W)} {ks : List (L2.Key × V)}, KR K φ n H kvs ks → KR K φ n H (kvs ++ [(k, w)]) (ks ++ [(keyV k, v)])
  | [], _, .nil => .cons ⟨⟨rfl, ok⟩, q⟩ .nil
  | _ :: _, _, .cons r0 t => .cons r0 (KR.snocput ok q t)
theorem KR.anyk {K : PySem.W.Frag} {φ : Phi} {n : Nat} {H : Hp} (k : Key) : ∀ {kvs : List (Key × PF.W)} {ks : List (L2.Key × V)}, KR K φ n H kvs ks → (kvs.any fun p => decide (p.1 = k)) = (ks.any fun p => decide (p.1 = keyV k))
  | [], _, .nil => rfl
  | p0 :: kvs, _, .cons (b := q0) r0 t => by
    rw [List.any_cons, List.any_cons, KR.anyk k t]
    congr 1
    rw [r0.1.1]
    exact decide_eq_decide.mpr ⟨fun z => by rw [z], keyV_inj⟩
theorem KR.put {K : PySem.W.Frag} {φ : Phi} {n : Nat} {H : Hp} {kvs : List (Key × PF.W)} {ks : List (L2.Key × V)} {k : Key} {w : PF.W} {v : V} (r : KR K φ n H kvs ks) (ok : okK k) (q : VR K φ n H w v) : KR K φ n H (PF.putK kvs k w) (L2.putK ks (keyV k) v) := by
  unfold PF.putK L2.putK
  rw [r.anyk k]
  split
  · exact r.mapput ok q
  · exact r.snocput ok q
theorem set_s (hu : X.A.units + 64 < cLine) : PSet X (fun o i v H R => ∃ φ h w u y, Cells X.K cls φ h H ∧ VR X.K φ h.length H w o ∧ VR X.K φ h.length H u i ∧ VR X.K φ h.length H y v ∧ ∃ h', stL w u y h = some h' ∧ ∀ H', Keep H H' → Cells X.K cls φ h' H' → R H') := by
  rintro pins s σ H o i v ov iv u Q I ro ri rv ⟨φ, h, w, z, y, C, r1, r2, r3, h', e, q⟩
  unfold stL at e
  split at e
  · split at e
    · rename_i ws ei
      split at e
      · rename_i kk0
        cases hj : ixW ws.length kk0 with
        | none => rw [hj] at e; cases e
        | some j =>
          rw [hj] at e
          cases e
          cases r1 with
          | ref hi =>
            cases r2
            obtain ⟨vs, hv1, hv2⟩ := C.cell _ _ ei
            have kk : Keep H (upd H _ (.lst (vs.set j v))) := keep_set hv1 fun z => z
            exact set_list pins s σ H _ _ v ov iv u Q I ro ri rv ⟨_, vs, _, j, rfl, rfl, hv1, by rw [← hv2.length]; exact hj, q _ kk (C.chg hi ⟨_, upd_same, (hv2.set r3 j).mono (Ext.refl _ _) (Nat.le_refl _) kk⟩)⟩
      · cases e
    · rename_i kvs ei
      cases hk : keyOf z with
      | none => rw [hk] at e; cases e
      | some k =>
        rw [hk] at e
        have e : (if kvs.length < bigL then some (h.set _ (.dct (PF.putK kvs k y))) else none) = some h' := e
        split at e
        · rename_i hl
          cases e
          cases r1 with
          | ref hi =>
            obtain ⟨ks, hv1, hv2⟩ := C.cell _ _ ei
            have ev := key_at r2 hk
            have okk := key_ok r2 hk
            subst ev
            have kk : Keep H (upd H _ (.dK (L2.putK ks (keyV k) v))) := keep_set hv1 fun z => z
            have hlen : kvs.length = ks.length := Paired.length hv2
            exact set_dict (by omega) pins s σ H _ _ v ov iv u Q I ro ri rv ⟨_, _, rfl, DPut.k hv1 (by rw [← hlen, ← bigL_eq]; exact hl), q _ kk (C.chg hi ⟨_, upd_same, KR.mono (Ext.refl _ _) (Nat.le_refl _) kk (hv2.put okk r3)⟩)⟩
        · cases e
    · cases e
  · cases e
theorem stL_len {w u y : PF.W} {h h' : Hs} (e : stL w u y h = some h') : h'.length = h.length := by
  unfold stL at e
  split at e
  · split at e
    · split at e
      · cases hj : ixW _ _ with
        | none => rw [hj] at e; cases e
        | some j => rw [hj] at e; cases e; rw [List.length_set]
      · cases e
    · cases hk : keyOf u with
      | none => rw [hk] at e; cases e
      | some k =>
        rw [hk] at e
        have e : (if _ then some (h.set _ _) else none) = some h' := e
        split at e
        · cases e; rw [List.length_set]
        · cases e
    · cases e
  · cases e
theorem gs_sub {d o i : PF.D} (gd : Grow d) (go : Grow o) (gi : Grow i) : GrowS (sSub d o i stL) := fun ρ h => growsS.onR (gd ρ h) fun v h1 _ l1 => growsS.onR ((go ρ h1).le l1) fun x h2 _ l2 => growsS.onR ((gi ρ h2).le l2) fun y h3 _ l3 => by
  split
  · rename_i h4 e
    show h.length ≤ h4.length
    rw [stL_len e]
    exact l3
  · trivial
theorem rs_sub (hu : X.A.units + 64 < cLine) {o i e : Expr} {pos p2 : Pos} {d od id' : PF.D} (he : RE X cls W e d) (ho : RE X cls W o od) (hi : RE X cls W i id')
    (ha : ∀ v, assign (.Subscript o i p2) X.env v = (do
      let ov ← holding [v] (eval o X.env)
      let iv ← holding [v, ov] (eval i X.env)
      standAt p2
      holding [v, ov, iv] (setItem ov iv v)
      release [v, ov, iv] []) := by intro _; rfl)
    (hs : swapsWithSole [.Subscript o i p2] e pos.line X.env = pure false := by rfl) (hw : swappedStores [.Subscript o i p2] e X.env = pure none := by rfl)
    (h1 : (assignEach [.Subscript o i p2] X.env).map (·.2) = [assign (.Subscript o i p2) X.env] := by rfl) : RS X cls W (.Assign [.Subscript o i p2] e pos) (sSub d od id' stL) :=
  ⟨(ps_asg he.pe (pg_sub ho.pe hi.pe (set_s hu (cls := cls)) ha) hs hw h1).imp fun D σ H t => t.ok fun φ h ρ x p => x.firstS (he.g ρ h) p fun v H1 φ1 w1 h1 g1 x1 p1 => x1.firstS (ho.g ρ h1) p1 fun a H2 φ2 w2 h2 g2 x2 p2 => x2.firstS (hi.g ρ h2) p2 fun b H3 φ3 w3 h3 g3 x3 p3 => by
    split at p3
    · rename_i h4 e4
      refine ⟨φ3, h3, w2, w3, w1, g3.C, VR.mono g3.e g3.l g3.k g2.r, g3.r, VR.mono g3.e g3.l g3.k (VR.mono g2.e g2.l g2.k g1.r), h4, e4, fun H' kk C' => p3 φ3 σ H' (Ext.refl _ _) kk ⟨C', ?_⟩⟩
      rw [stL_len e4]
      exact x3.S.mono (Ext.refl _ _) (Nat.le_refl _) kk
    · exact p3.elim, gs_sub he.g ho.g hi.g⟩
/-! ### in, not in: flat things in a list or a tuple; a sign in a text -/
theorem eqF_at {K : PySem.W.Frag} {φ : Phi} {n : Nat} {H : Hp} {w u : PF.W} {x y : V} {b : Bool} (r : VR K φ n H w x) (q : VR K φ n H u y) (e : eqF w u = some b) : flatV x = true ∧ flatV y = true ∧ eqV x y = b := by
  cases r <;> cases q <;> simp [eqF] at e <;> (subst e; simp [flatV, eqV, sS_beq])
theorem inF_at {K : PySem.W.Frag} {φ : Phi} {n : Nat} {H : Hp} {w : PF.W} {x : V} (r : VR K φ n H w x) (fw : flatV x = true) : ∀ {ws : List PF.W} {vs : List V} {b : Bool}, VRs K φ n H ws vs → inF w ws = some b → vs.all flatV = true ∧ L2.inV x vs = b
  | [], _, b, .nil, e => by cases e; exact ⟨rfl, rfl⟩
  | u :: us, _, b, .cons r0 rr, e => by
    rw [inF] at e
    cases e1 : eqF u w with
    | none => rw [e1] at e; cases e
    | some c =>
      rw [e1] at e
      cases e2 : inF w us with
      | none => rw [e2] at e; cases e
      | some c2 =>
        rw [e2] at e
        cases e
        obtain ⟨f1, _, f2⟩ := eqF_at r0 r e1
        obtain ⟨f3, f4⟩ := inF_at r fw rr e2
        refine ⟨by rw [List.all_cons, f1, f3]; rfl, ?_⟩
        unfold L2.inV at f4 ⊢
        rw [List.any_cons, f2, f4]
theorem flat_at {K : PySem.W.Frag} {φ : Phi} {n : Nat} {H : Hp} {w : PF.W} {x : V} (r : VR K φ n H w x) (e : flatF w = true) : flatV x = true := by
  cases r <;> simp [flatF] at e <;> rfl
theorem eqD_any {d : Da} : ∀ ds : List Da, (Da.pys ds).any (fun z => PyData.eqv z d.py) = anyD d ds
  | [] => rfl
  | z :: ds => by
    have e := eqD_any (d := d) ds
    unfold anyD at e ⊢
    rw [Da.pys, List.any_cons, List.any_cons, e, Da.eqv_py]
theorem dctOf_at {K : PySem.W.Frag} {φ : Phi} {h : Hs} {H : Hp} {w : PF.W} {v : V} {kvs : List (Key × PF.W)} (C : Cells K cls φ h H) (r : VR K φ h.length H w v) (e : dctOf w h = some kvs) : ∃ a ks, v = .ref a ∧ H a = some (.dK ks) ∧ KR K φ h.length H kvs ks := by
  cases r with
  | @ref i hi =>
    unfold dctOf at e
    dsimp only at e
    split at e
    · rename_i ws ei
      cases e
      obtain ⟨vs, h1, h2⟩ := C.cell _ _ ei
      exact ⟨_, vs, rfl, h1, h2⟩
    · cases e
  | _ => cases e
theorem o_in (hu : X.A.units + 64 < cLine) : OpR X (compareOp .In) (rO X.K cls oIn) := by
  rintro pins s σ H x y v u Q I rx ry ⟨φ, h, w1, w2, E, C, r1, r2, p⟩
  unfold oIn at p
  split at p
  · rename_i c z
    cases r1; cases r2
    refine op_in_sign pins s σ H _ _ v u Q I rx ry ⟨c, sS z, rfl, rfl, ?_⟩
    have q := rO_ok C p (.bl _)
    have e : (sS z).cps.toList = z := by simp [sS]
    rw [e]
    exact q
  · split at p
    · rename_i b e
      unfold inA at e
      split at e
      · rename_i kvs ed
        cases hk : keyOf w1 with
        | none => rw [hk] at e; cases e
        | some k =>
          rw [hk] at e
          cases e
          obtain ⟨a, ks, rfl, hk1, hk2⟩ := dctOf_at C r2 ed
          have ev := key_at r1 hk
          subst ev
          cases ry
          refine d_in (by omega) I (DGet.k hk1) rx fun s' I' => ?_
          have : (lookK kvs k).isSome = (L2.valV ks (keyV k)).isSome := by
            rcases hk2.look k with ⟨_, _, e1, e2, _⟩ | ⟨e1, e2⟩ <;> rw [e1, e2] <;> rfl
          rw [← this]
          exact ⟨.bl _, H, I', rfl, rO_ok C p (.bl _)⟩
      · split at e
        · rename_i hf
          cases es : seqOf w2 h with
          | none => rw [es] at e; cases e
          | some ws =>
            rw [es] at e
            obtain ⟨a, vs, rfl, hs, hr⟩ := seqOf_at C r2 es
            obtain ⟨f1, f2⟩ := inF_at r1 (flat_at r1 hf) hr e
            exact op_in_seq pins s σ H _ _ v u Q I rx ry ⟨a, vs, rfl, hs, flat_at r1 hf, f1, by rw [f2]; exact rO_ok C p (.bl b)⟩
        · split at e
          · rename_i d ds e1 e2
            cases e
            obtain ⟨a1, a2, a3⟩ := Dp_of C _ _ _ _ r1 e1
            obtain ⟨b1, b2, b3⟩ := Dp_of C _ _ _ _ r2 e2
            have l : deepest ≤ 60 := by decide
            obtain ⟨as, q1⟩ := Dp.reads I d.py x v a1 rx
            obtain ⟨bs, q2⟩ := Dp.reads I (Da.lst ds).py y u b1 ry
            rw [Da.py] at q2 b2
            refine SeqAt.in_list_reads q2 q1 b2 a2 (by have := Nat.min_le_right (PyData.depthAll (Da.pys ds)) d.py.depth; omega) ?_
            rw [eqD_any]
            exact ⟨.bl _, H, I, rfl, rO_ok C p (.bl _)⟩
          · cases e
    · exact p.elim
theorem o_nin (hu : X.A.units + 64 < cLine) : OpR X (compareOp .NotIn) (rO X.K cls oNin) := by
  rintro pins s σ H x y v u Q I rx ry ⟨φ, h, w1, w2, E, C, r1, r2, p⟩
  unfold oNin at p
  split at p
  · rename_i c z
    cases r1; cases r2
    refine op_notIn_sign pins s σ H _ _ v u Q I rx ry ⟨c, sS z, rfl, rfl, ?_⟩
    have q := rO_ok C p (.bl _)
    have e : (sS z).cps.toList = z := by simp [sS]
    rw [e]
    exact q
  · split at p
    · rename_i b e
      unfold inA at e
      split at e
      · rename_i kvs ed
        cases hk : keyOf w1 with
        | none => rw [hk] at e; cases e
        | some k =>
          rw [hk] at e
          cases e
          obtain ⟨a, ks, rfl, hk1, hk2⟩ := dctOf_at C r2 ed
          have ev := key_at r1 hk
          subst ev
          cases ry
          refine d_notIn (by omega) I (DGet.k hk1) rx fun s' I' => ?_
          have : (lookK kvs k).isSome = (L2.valV ks (keyV k)).isSome := by
            rcases hk2.look k with ⟨_, _, e1, e2, _⟩ | ⟨e1, e2⟩ <;> rw [e1, e2] <;> rfl
          rw [← this]
          exact ⟨.bl _, H, I', rfl, rO_ok C p (.bl _)⟩
      · split at e
        · rename_i hf
          cases es : seqOf w2 h with
          | none => rw [es] at e; cases e
          | some ws =>
            rw [es] at e
            obtain ⟨a, vs, rfl, hs, hr⟩ := seqOf_at C r2 es
            obtain ⟨f1, f2⟩ := inF_at r1 (flat_at r1 hf) hr e
            exact op_notIn_seq pins s σ H _ _ v u Q I rx ry ⟨a, vs, rfl, hs, flat_at r1 hf, f1, by rw [f2]; exact rO_ok C p (.bl (!b))⟩
        · split at e
          · rename_i d ds e1 e2
            cases e
            obtain ⟨a1, a2, a3⟩ := Dp_of C _ _ _ _ r1 e1
            obtain ⟨b1, b2, b3⟩ := Dp_of C _ _ _ _ r2 e2
            have l : deepest ≤ 60 := by decide
            obtain ⟨as, q1⟩ := Dp.reads I d.py x v a1 rx
            obtain ⟨bs, q2⟩ := Dp.reads I (Da.lst ds).py y u b1 ry
            rw [Da.py] at q2 b2
            refine SeqAt.notIn_list_reads q2 q1 b2 a2 (by have := Nat.min_le_right (PyData.depthAll (Da.pys ds)) d.py.depth; omega) ?_
            rw [eqD_any]
            exact ⟨.bl _, H, I, rfl, rO_ok C p (.bl _)⟩
          · cases e
    · exact p.elim
theorem g_in : GrO oIn := fun w u h => by
  unfold oIn
  split
  · exact Nat.le_refl _
  · split <;> first | exact Nat.le_refl _ | trivial
theorem g_nin : GrO oNin := fun w u h => by
  unfold oNin
  split
  · exact Nat.le_refl _
  · split <;> first | exact Nat.le_refl _ | trivial
/-! ### {} and d.get(k, x) -/
theorem gr_dct0 : Grow dDct0 := fun ρ h => by
    show h.length ≤ (h ++ _).length
    rw [List.length_append]
    omega
theorem re_dct0 {pos : Pos} : RE X cls W (.Dict [] [] pos) dDct0 :=
  ⟨pe_dnewK.imp fun σ H Q t => t.ok fun φ h ρ x p => fun q hq => by
    have q1 := p (put φ h.length q) (.ref q) _ (put_ext _ _ _) (keep_new hq) (x.C.new hq ⟨[], upd_same, .nil⟩)
    refine q1 ?_
    have e : V.ref q = .ref (put φ h.length q h.length) := by rw [put_at]
    rw [e]
    exact .ref (by rw [List.length_append, List.length_singleton]; exact Nat.lt_succ_self _),
   fun ρ h => by
    show h.length ≤ (h ++ _).length
    rw [List.length_append]
    omega⟩
theorem m_get (hu : X.A.units + 64 < cLine) : MtR X "dict.get" (rM X.K cls mGet) := by
  rintro pins s σ H x xs v us Q I rx rs ⟨φ, h, w, ws, E, C, r, t, p⟩
  unfold mGet at p
  split at p
  · split at p
    · rename_i kvs ei
      split at p
      · rename_i k hk
        cases r with
        | ref hi =>
          cases t with
          | cons t1 tt =>
            cases tt with
            | cons t2 tt2 =>
              cases tt2
              obtain ⟨ks, hv1, hv2⟩ := C.cell _ _ ei
              have ev := key_at t1 hk
              subst ev
              cases rx
              cases rs with
              | cons s1 st =>
                cases st with
                | cons s2 st2 =>
                  cases st2
                  refine d_get2 (by omega) I (DGet.k hv1) s1 s2 fun w' s' I' rw' => ⟨_, H, I', rw', ?_⟩
                  rcases hv2.look k with ⟨w0, z, e1, e2, rz⟩ | ⟨e1, e2⟩
                  · rw [e1] at p
                    rw [e2]
                    exact rO_ok C p rz
                  · rw [e1] at p
                    rw [e2]
                    exact rO_ok C p t2
      · exact p.elim
    · exact p.elim
  · exact p.elim
theorem gm_get : GrM mGet := fun w ws h => by
  unfold mGet
  split
  · split
    · split
      · exact Nat.le_refl _
      · trivial
    · trivial
  · trivial
end
end PF
namespace PFX0
open PySem PySem.Spec PySem.Calls PySem.W PyProof.Rows
theorem bind_data {K : Frag} {C : Addr} {od : Option Obj} {nm : PySem.Str} {u v : Value} (h1 : (clsIn K C).isSome = true) (h2 : findIn K (.ref C) nm = some (some u)) (h3 : specialIn K u "__get__" = some (some v)) (h4 : takesIn K u = some true) : findObj K C od nm = some (.bind v u) := by
  cases h5 : clsIn K C with
  | none => rw [h5] at h1; cases h1
  | some cd =>
    unfold findObj
    simp [h5, h2, h3, h4]
theorem has_cls {K : Frag} {D : Addr} (h : hasDictIn K D = true) : (clsIn K D).isSome = true := by
  obtain ⟨cd, e, _⟩ := any_some h
  rw [e]
  rfl
theorem own_class {prog : Program} {w : World} {A : Around} {E : Value → Shared → Prop} {s : Shared} {K : Frag} {x D : Addr} {ox : Obj} {od : Option Obj} {Q : Option Value → Shared → Prop} (C : L2.ExcC K D) (X : K.In s.heap) (I : InstAt s.heap x ox D od)
    (q : Q (some (.ref D)) { s with toks := s.toks + 1 }) : wpAny (model prog w) A (getAttr? (.ref x) "__class__") Q E s := by
  have fo : findObj K D od "__class__" = some (.bind (.builtin "getset_descriptor.__get__") (.builtin "object.__class__")) := bind_data (has_cls C.hd) C.ha C.hn C.ht
  obtain ⟨hp, gs, dr, tk, os⟩ := s
  have t0 := I.type (M := model prog w)
  have t1 := looks_findIn (M := model prog w) X C.hg
  have t2 := looks_findIn (M := model prog w) X C.hk
  have t3 := looks_find (M := model prog w) X I fo
  have isB : Looks (model prog w) hp (isInstance (.ref x) (.type "BaseException")) true := t0.andThen (looks_subIn X C.hs)
  have ne : (Value.builtin "BaseException.__getattribute__" == Value.builtin "object.__getattribute__") = false := by decide +kernel
  have ne1 : (onTheHeap (Value.ref D) && Value.builtin "BaseException.__getattribute__" == Value.builtin "object.__getattribute__") = false := by rw [ne, Bool.and_false]
  unfold getAttr? getAttrBy? getAttrBy
  refine wpAny_bind (wpAny_mkText (wpAny_bind (wpAny_attempt (wpAny_holding (wpAny_bind (t0.at (wpAny_bind (t1.at ?_))))))))
  show wpAny _ _ (ite ((onTheHeap (Value.ref D) && Value.builtin "BaseException.__getattribute__" == Value.builtin "object.__getattribute__") = true) _ _) _ _ _
  rw [if_neg (by rw [ne1]; exact Bool.false_ne_true)]
  unfold getAttrByItsOwn hookBefore
  refine wpAny_bind ?_
  rw [if_pos (by rfl)]
  refine t2.at ?_
  refine wpAny_bind (wpAny_attempt (wpAny_holding ?_))
  unfold callGetattribute
  rw [if_neg (by intro z; cases z)]
  unfold boundAndCalled
  rw [PySem.F.excAttr_ValueError.ga.bind (.ref x)]
  refine wpAny_bind (wpAny_pure ?_)
  show wpAny _ _ (call (.builtin "BaseException.__getattribute__") [.ref x, .str "__class__" tk]) _ _ _
  refine wpAny_call (codeAny_call_builtin PySem.F.excAttr_ValueError.ga.plain PySem.F.entry_bexc_ga (@check_slot (model prog w) _ _ ⟨hp, gs, dr, tk + 1, os⟩ "BaseException.__getattribute__" "BaseException" "__getattribute__" (.ref x) [.str "__class__" tk] [] _ (by decide +kernel) (by decide +kernel) isB (PySem.F.args_bexc_ga (.ref x) (.str "__class__" tk)) ?_))
  unfold Builtin.«object.__getattribute__»
  refine wpAny_bind (wpAny_of_eq (a := ((Value.ref x : Value), [Value.str "__class__" tk])) (by first | rfl | (simp only [slotArgs]; rfl)) (wpAny_bind (wpAny_pure (wpAny_bind (t0.at (wpAny_bind (t3.at ?_)))))))
  show wpAny _ _ (holding [Value.builtin "object.__class__"] (call (.builtin "getset_descriptor.__get__") [.builtin "object.__class__", .ref x, .ref D]) >>= ret) _ _ _
  refine wpAny_bind (wpAny_holding (wpAny_call (class_get (s := ⟨hp, gs, dr, tk + 1, os⟩) (ox := ox) (od := od) X I C.hm (wpAny_pure ?_))))
  show wpAny _ _ (handedOut (.ref D)) _ _ _
  rw [handedOut_of (v := .ref D) rfl]
  first
    | exact wpAny_pure (wpAny_pure q)
    | exact wpAny_pure q
    | exact wpAny_pure (wpAny_bind (wpAny_pure (wpAny_pure q)))
end PFX0
namespace PF
open PySem PySem.Spec PyProof.Rows L2
theorem kitx_at {K : PySem.W.Frag} {x D : Addr} {ox : Obj} (C : ExcC K D) : PySem.W.KitX K (.ref x) (.ref D) (fun h => ∃ od, PySem.W.InstAt h x ox D od) where
  ty := fun _ _ _ ⟨_, I⟩ => I.type
  it := fun _ h X _ => by
    obtain ⟨cd, e, _⟩ := PySem.W.any_some C.hd
    unfold PySem.W.clsIn at e
    split at e
    · rename_i ho
      intro A2 Q2 E2 s2 k q
      unfold isType loadHead
      exact wpAny_bind (wpAny_loadPart (k _ _ (X _ _ ho)) (wpAny_pure q))
    · cases e
  ne := fun h tp dd its n sl X htp => by
    obtain ⟨cd, e, _⟩ := PySem.W.any_some C.hd
    rw [Bool.eq_false_iff]
    intro q
    cases beq_iff_eq.mp q
    unfold PySem.W.clsIn at e
    split at e
    · rename_i ho
      cases (X _ _ ho).symm.trans htp
    · cases e
  ca := fun X ⟨_, I⟩ k => PFX0.own_class C X I k
end PF
namespace PF
open PySem PySem.Spec PyProof.Rows L2
section
variable {X : Cx} {cls : Cl} {W : WX}
/-! ### xs[::-1] -/
theorem gr_rev {a : PF.D} (ga : Grow a) : Grow (dRev a) := fun ρ h => (ga ρ h).bind fun w h1 _ l => by
  split
  · exact (newL_grows _ _).le l
  · trivial
theorem re_rev {e : Expr} {d : PF.D} {k : Tok} {p1 p2 p3 pos : Pos} (he : RE X cls W e d) : RE X cls W (.Subscript e (.Slice none none (some (.UnaryOp .USub (.Constant (.int 1) k p1) p2)) p3) pos) (dRev d) :=
  ⟨(pe_revL he.pe).imp fun σ H Q t => t.ok fun φ h ρ x p => x.first (he.g ρ h) p fun v H1 φ1 w1 h1 g1 x1 p1 => by
    have r1 : VR X.K φ1 h1.length H1 w1 v := g1.r
    split at p1
    · rename_i ws e1
      obtain ⟨a, vs, rfl, hs, hr⟩ := lstOf_at g1.C r1 e1
      exact ⟨a, vs, rfl, hs, post_lst g1.C hr.reverse p1⟩
    · exact p1.elim, gr_rev he.g⟩
/-! ### classes of errors -/
/-- the classes named in a tuple, as arguments -/
theorem pa_cls0 : PA X [] (fun _ H Q => Q [] H) := pa_nil
theorem pa_cls {e : Expr} {es : List Expr} {v : V} {cs : List V} (he : PE X e (tC v)) (hs : PA X es (fun _ H Q => Q cs H)) (hst : starEach (e :: es) X.env = (false, eval e X.env) :: starEach es X.env := by rfl) : PA X (e :: es) (fun _ H Q => Q (v :: cs) H) := pa_cons he hs hst
def clsV (cls : Cl) (ids : List Nat) : List V := ids.map fun i => V.ref (cls i)
theorem kitAny_ids {K : PySem.W.Frag} {t : Value} {c : Nat} : ∀ ids : List Nat, (∀ i, i ∈ ids → PySem.W.kitOne K t (.ref (cls i)) = some (c == i)) → PySem.W.kitAny K t (ids.map fun i => Value.ref (cls i)) = some (ids.any fun i => c == i)
  | [], _ => rfl
  | i :: is, h => kitAny_cons (h i List.mem_cons_self) (fun hb => by
      rw [kitAny_ids is fun j hj => h j (List.mem_cons_of_mem _ hj), List.any_cons, hb, Bool.false_or]) fun hb => by rw [List.any_cons, hb]; rfl
theorem paired_ids : ∀ ids : List Nat, Paired ClsV (clsV cls ids) (ids.map fun i => Value.ref (cls i))
  | [] => .nil
  | i :: is => .cons (.own _) (paired_ids is)
/-- the caught error's own dict -/
def DictAt (H : Hp) (d : Option Addr) : Prop := d = none ∨ ∃ (dd : Addr) (fs : List (PySem.Str × V)), d = some dd ∧ H dd = some (.xd fs)
theorem inst_at {a D : Addr} {d : Option Addr} {oe : Obj} {pn pins : List (Addr × Obj)} {σ : L2.St} {H : Hp} {s : Shared} (I : Inv (X.suite a ((a, oe) :: pn)) pins σ H s) (hz : Zc (.ref D) d oe) (hf : ∃ vs, oe.data = .fields vs) (hd : DictAt H d) : ∃ od, PySem.W.InstAt s.heap a oe D od := by
  obtain ⟨hget, _⟩ := I.pin (a, oe) (List.mem_append.mpr (.inl List.mem_cons_self))
  obtain ⟨vs, hv⟩ := hf
  have nc : PySem.W.notCls oe = true := by
    unfold PySem.W.notCls
    rw [hv]
  rcases hd with rfl | ⟨dd, fs, rfl, e⟩
  · exact ⟨none, hget, hz.1, nc, by rw [hz.2]; trivial⟩
  · have hx : ObjOk X.prog X.w H s.heap dd (.xd fs) := I.hok dd _ e
    obtain ⟨mA, ⟨od, es, ep, ho, _⟩, hr⟩ := hx
    exact ⟨some od, hget, hz.1, nc, by rw [hz.2]; exact ho⟩
theorem er_imp {a : Addr} {d : Option Addr} {i : Nat} {b : Bool} {σ : L2.St} {H : Hp} {Q : VK} {W' : WX} (t : tG X.K (cls.in a d) (rW X.K) W' (dEr i b) σ H Q) : ∃ φ h ρ, At X.K (cls.in a d) φ h ρ σ H ∧ σ[i]? = some (some (.ref a)) ∧ DictAt H d ∧ Post X.K (cls.in a d) (rW X.K) φ h.length H (fun c d H' => W' c d σ H') Q (.ok (.bl b) h) := by
  obtain ⟨φ, h, ρ, x, p⟩ := t
  unfold dEr at p
  split at p
  · rename_i e
    obtain ⟨h1, h2⟩ := er_at x e (.inl rfl)
    refine ⟨φ, h, ρ, x, h1, ?_, p⟩
    rcases h2 with h2 | ⟨_, _, _, _, _, h2, h3, _⟩
    · exact .inl h2
    · exact .inr ⟨_, _, h2, h3⟩
  · rename_i e
    obtain ⟨h1, h2⟩ := er_at x e (.inr ⟨_, _, rfl⟩)
    refine ⟨φ, h, ρ, x, h1, ?_, p⟩
    rcases h2 with h2 | ⟨_, _, _, _, _, h2, h3, _⟩
    · exact .inl h2
    · exact .inr ⟨_, _, h2, h3⟩
  · exact p.elim
theorem call_is1 {a D : Addr} {d : Option Addr} {oe : Obj} {pn : List (Addr × Obj)} (C : ExcC X.K D) (hz : Zc (.ref D) d oe) (hf : ∃ vs, oe.data = .fields vs) :
    CallR (X.suite a ((a, oe) :: pn)) (.builtin "isinstance") (fun xs H Q => ∃ (c : V) (cv : Value) (b : Bool), xs = [.ref a, c] ∧ DictAt H d ∧ (∀ u, RelV c u → u = cv) ∧ PySem.W.kitOne X.K (.ref D) cv = some b ∧ Q (.bl b) H) := by
  intro pins s σ H xs us Q I r h
  obtain ⟨c, cv, b, rfl, hd, hcv, e, q⟩ := h
  obtain ⟨u1, u2, rfl, rx, rt⟩ := vals2 r
  cases (show u1 = Value.ref a from rx)
  cases hcv _ rt
  exact PySem.W.kia_one (kitx_at C) I.kIn (inst_at I hz hf hd) e (fun z => nomatch z) fun tk => ⟨.bl b, H, I.tok tk, rfl, q⟩
theorem call_is2 {a D : Addr} {d : Option Addr} {oe : Obj} {pn : List (Addr × Obj)} (C : ExcC X.K D) (hz : Zc (.ref D) d oe) (hf : ∃ vs, oe.data = .fields vs) :
    CallR (X.suite a ((a, oe) :: pn)) (.builtin "isinstance") (fun xs H Q => ∃ (tp : Addr) (cs : List V) (us : List Value) (b : Bool), xs = [.ref a, .ref tp] ∧ DictAt H d ∧ H tp = some (.tup cs) ∧ Paired ClsV cs us ∧ PySem.W.kitAny X.K (.ref D) us = some b ∧ Q (.bl b) H) := by
  intro pins s σ H xs us Q I r h
  obtain ⟨tp, cs, ws, b, rfl, hd, hT, k, e, q⟩ := h
  obtain ⟨u1, u2, rfl, rx, r2⟩ := vals2 r
  cases (show u2 = Value.ref tp from r2)
  cases (show u1 = Value.ref a from rx)
  obtain ⟨_, its, rv, o, h1, h2, n, h3⟩ := (show ObjOk X.prog X.w H s.heap tp (.tup cs) from I.hok tp _ hT)
  have e3 := ClsV.all k rv
  subst e3
  obtain ⟨oc, od, dt, sl⟩ := o
  simp only at h2 h3
  subst h2 h3
  exact PySem.W.kia_tup (kitx_at C) I.kIn (inst_at I hz hf hd) h1 e (fun z => nomatch z) fun tk => ⟨.bl b, H, I.tok tk, rfl, q⟩
/-- isinstance(e, C) in the suite: C an own class, or a built-in one -/
theorem re_isE {a : Addr} {oe : Obj} {d : Option Addr} {pn : List (Addr × Obj)} {D : Addr} {W' : WX} (i : Nat) {b : Bool} {x n : PySem.Str} {p p1 p2 pos : Pos} {c : V} {cv : Value} (hN : X.N[i]? = some n) (hv : Vis X.env.scope n) (C : ExcC X.K D) (hz : Zc (.ref D) d oe) (hf : ∃ vs, oe.data = .fields vs)
    (hg : Gl X "isinstance") (hm : X.mg "isinstance" = none) (hc : PE (X.suite a ((a, oe) :: pn)) (.Name x p2) (tC c)) (hcv : ∀ u, RelV c u → u = cv) (hk : PySem.W.kitOne X.K (.ref D) cv = some b) (hd : (n == ("__debug__" : PySem.Str)) = false := by decide) (hcd : (n == ("__classdict__" : PySem.Str)) = false := by decide) :
    RE (X.suite a ((a, oe) :: pn)) (cls.in a d) W' (.Call (.Name "isinstance" p) [.Name n p1, .Name x p2] [] pos) (dEr i b) :=
  ⟨(pe_callB (X := X.suite a ((a, oe) :: pn)) (call_is1 C hz hf) hg hm boot_isinstance (pa_cons (pe_var (X := X.suite a ((a, oe) :: pn)) hN hv hd hcd) (pa_cons hc pa_nil rfl) rfl) (by decide) (by decide) rfl rfl).imp fun σ H Q t => by
    obtain ⟨φ, h, ρ, x, e, z, p⟩ := er_imp t
    exact ⟨.ref a, e, c, cv, b, rfl, z, hcv, hk, rO_ok x.C p (.bl b)⟩, gr_er i b⟩
/-- isinstance(e, (C1, C2, ..)) -/
theorem re_isET {a : Addr} {oe : Obj} {d : Option Addr} {pn : List (Addr × Obj)} {W' : WX} (i c : Nat) (ids : List Nat) {n : PySem.Str} {es : List Expr} {p p1 p2 pos : Pos} {j : Tok} (hN : X.N[i]? = some n) (hv : Vis X.env.scope n) (C : ExcC X.K (cls c)) (hz : Zc (.ref (cls c)) d oe) (hf : ∃ vs, oe.data = .fields vs)
    (hg : Gl X "isinstance") (hm : X.mg "isinstance" = none) (hc : PA (X.suite a ((a, oe) :: pn)) es (fun _ H Q => Q (clsV cls ids) H)) (hl : ids.length ≤ 1000) (hk : ∀ k, k ∈ ids → PySem.W.kitOne X.K (.ref (cls c)) (.ref (cls k)) = some (c == k)) (hd : (n == ("__debug__" : PySem.Str)) = false := by decide) (hcd : (n == ("__classdict__" : PySem.Str)) = false := by decide) :
    RE (X.suite a ((a, oe) :: pn)) (cls.in a d) W' (.Call (.Name "isinstance" p) [.Name n p1, .Tuple es j p2] [] pos) (dEr i (ids.any fun k => c == k)) :=
  ⟨(pe_callB (X := X.suite a ((a, oe) :: pn)) (call_is2 C hz hf) hg hm boot_isinstance (pa_cons (pe_var (X := X.suite a ((a, oe) :: pn)) hN hv hd hcd) (pa_cons (pe_tup hc) pa_nil rfl) rfl) (by decide) (by decide) rfl rfl).imp fun σ H Q t => by
    obtain ⟨φ, h, ρ, x, e, z, p⟩ := er_imp t
    refine ⟨.ref a, e, ?_, fun q hq => ?_⟩
    · unfold clsV
      rw [List.length_map]
      exact Nat.le_trans hl (Nat.le_of_lt (small1000 (Nat.le_refl _)))
    · refine ⟨q, clsV cls ids, _, _, rfl, ?_, upd_same, paired_ids ids, kitAny_ids ids hk, ?_⟩
      · rcases z with z | ⟨dd, fs, z1, z2⟩
        · exact .inl z
        · exact .inr ⟨dd, fs, z1, keep_new hq _ _ trivial z2⟩
      · exact p φ _ _ (Ext.refl _ _) (keep_new hq) (x.C.other hq) (.bl _), gr_er i _⟩
/-- the field of the caught error -/
theorem re_fd {a : Addr} {oe : Obj} {d : Option Addr} {pn : List (Addr × Obj)} {D : Addr} {W' : WX} (i : Nat) (f : List Nat) {n fn : PySem.Str} {p1 pos : Pos} (hN : X.N[i]? = some n) (hv : Vis X.env.scope n) (T : XfC X.K D) (hno : PySem.W.findIn X.K (.ref D) fn = some none) (hz : Zc (.ref D) d oe) (hf : ∃ vs, oe.data = .fields vs) (hs : fn = sS f)
    (hd : (n == ("__debug__" : PySem.Str)) = false := by decide) (hcd : (n == ("__classdict__" : PySem.Str)) = false := by decide) : RE (X.suite a ((a, oe) :: pn)) (cls.in a d) W' (.Attribute (.Name n p1) fn pos) (dFd i f) :=
  ⟨(pe_xf T hno hz hf (pe_var (X := X.suite a ((a, oe) :: pn)) hN hv hd hcd)).imp fun σ H Q t => by
    obtain ⟨φ, h, ρ, x, p⟩ := t
    unfold dFd at p
    split at p
    · rename_i g w e
      split at p
      · rename_i eg
        subst eg
        obtain ⟨h1, h2⟩ := er_at x e (.inr ⟨_, _, rfl⟩)
        rcases h2 with h2 | ⟨dd, f, v, u, e1, e2, e3, e4⟩
        · obtain ⟨v, hv, r⟩ := x.S.2 i _ e
          cases r with
          | errF h z r =>
            rw [x.C.noe, h2] at h
            cases h
        · cases e1
          exact ⟨.ref a, h1, rfl, rfl, dd, _, v, e2, e3, by rw [hs]; simp, p φ v H (Ext.refl _ _) (Keep.refl _) x.C e4⟩
      · exact p.elim
    · exact p.elim, gr_fd i f⟩
/-- an own class in an except clause, in isinstance -/
theorem names_own {x : PySem.Str} {C : Addr} (hg : Gl X x) (hm : X.mg x = some (.ref C)) (hd : (x == ("__debug__" : PySem.Str)) = false := by decide) : Names X x (.ref C) := ⟨hg, hd, .inl hm⟩
theorem subL {a b : List Nat} (h : (a.all fun i => decide (i ∈ b)) = true) : ∀ i, i ∈ a → i ∈ b := fun i hi => of_decide_eq_true (List.all_eq_true.mp h i hi)
/-- facts of the classes that may be raised (L), as against those that are named (ids) -/
structure ExK (K : PySem.W.Frag) (cls : Cl) (L : List Nat) (base : Nat) (ids : List Nat) : Prop where
  ec : ∀ k, k ∈ L → ExcC K (cls k)
  kb : ∀ k, k ∈ L → PySem.W.kitOne K (.ref (cls k)) (.type "ValueError") = some true
  ko : ∀ k, k ∈ L → ∀ j, j ∈ ids → PySem.W.kitOne K (.ref (cls k)) (.ref (cls j)) = some (k == j)
  kp : ∀ k, k ∈ L → PySem.W.kitOne K (.ref (cls k)) (.ref (cls base)) = some true
  xo : ∀ k, k ∈ L → ∀ j, j ∈ ids → PySem.W.exmOne K (.ref (cls k)) (.ref (cls j)) = some (k == j)
  xp : ∀ k, k ∈ L → PySem.W.exmOne K (.ref (cls k)) (.ref (cls base)) = some true
end
end PF
namespace PF
open PySem PySem.Spec PyProof.Rows L2
theorem kit_ref {K : PySem.W.Frag} {C D : Addr} {b : Bool} (hs : PySem.W.subIn K (.ref C) (.ref C) = some true) (hd : PySem.W.hasDictIn K D = true) (ht : PySem.W.typeIn K (.ref D) = some (.type "type")) (h4 : PySem.W.subIn K (.ref C) (.ref D) = some b) : PySem.W.kitOne K (.ref C) (.ref D) = some b := by
  by_cases e : C = D
  · subst e
    rw [hs] at h4
    cases h4
    show (if ((Value.ref C) == (Value.ref C)) = true then some true else _) = _
    rw [if_pos (by simp)]
  · obtain ⟨cd, hc, _⟩ := PySem.W.any_some hd
    have e2 : ((PySem.W.clsIn K D).isSome && PySem.W.typeIn K (.ref D) == some (.type "type")) = true := by rw [hc, ht] <;> rfl
    show (if ((Value.ref C) == (Value.ref D)) = true then some true else (if ((PySem.W.clsIn K D).isSome && PySem.W.typeIn K (.ref D) == some (.type "type")) = true then PySem.W.subIn K (.ref C) (.ref D) else none)) = _
    rw [if_neg (by simp [e]), if_pos e2]
    exact h4
theorem kit_val {K : PySem.W.Frag} {C : Addr} (h : PySem.W.subIn K (.ref C) (.type "ValueError") = some true) : PySem.W.kitOne K (.ref C) (.type "ValueError") = some true := by
  show (if ((Value.ref C) == (Value.type "ValueError")) = true then some true else (if PySem.W.kitMeta "ValueError" = true then PySem.W.subIn K (.ref C) (.type "ValueError") else none)) = _
  rw [if_neg (by simp), if_pos (by decide +kernel)]
  exact h
theorem allL_nil {p : Nat → Prop} : ∀ k, k ∈ ([] : List Nat) → p k := fun _ h => nomatch h
theorem allL_cons {p : Nat → Prop} {a : Nat} {l : List Nat} (h : p a) (t : ∀ k, k ∈ l → p k) : ∀ k, k ∈ a :: l → p k := List.forall_mem_cons.mpr ⟨h, t⟩
end PF
namespace PF
open PySem PySem.Spec PyProof.Rows L2
/-! ### an own error class whose __init__ keeps one field -/
/-- what the written part says of the class at B, whose __init__ is ValueError's -/
structure BaseC (K : PySem.W.Frag) (B : Addr) : Prop where
  sp : PySem.W.specialIn K (.ref B) "__getattribute__" = some (some (.builtin "type.__getattribute__"))
  rd : PySem.W.readsIn K B (.type "type") = true
  fi : PySem.W.findCls K (.ref B) (.type "type") "__init__" = some (.val (.builtin "ValueError.__init__"))
section
variable {X : Cx} {B : Addr} {e : Expr} {es : List Expr} {ta : TA} {n fn : PySem.Str} {p1 p2 p3 p4 p5 p6 p7 p8 p9 p10 pos : Pos}
/-- B.__init__(self, ..) -/
theorem pe_cinit (hg : Gl X n) (hm : X.mg n = some (.ref B)) (C : BaseC X.K B) (ha : PA X (e :: es) ta) (hdb : (n == ("__debug__" : PySem.Str)) = false := by decide) {pl : Sem Bool}
    (hc : eval (.Call (.Attribute (.Name n p1) "__init__" p2) (e :: es) [] pos) X.env = (do
      let v ← eval (.Name n p1) X.env
      standAt p2.atName
      let (f, us) ← holding [v] (getMethod v "__init__" pl)
      callWith pos f us (backTo pos (starEach (e :: es) X.env)) (backToKw pos (keywordEach [] X.env))) := by rfl)
    (he : starEach (e :: es) X.env = (false, eval e X.env) :: starEach es X.env := by rfl) (hpl : (backTo pos (starEach es X.env)).any (·.1) = false := by rfl) :
    PE X (.Call (.Attribute (.Name n p1) "__init__" p2) (e :: es) [] pos) (tVeI X.K ta) := by
  refine ⟨fun pins s σ H Q I h => PySem.W.methodCall_KW (ld_glob I hg hm (PySem.W.method_cls I.kIn C.sp (PySem.W.cls_value I.kIn C.rd C.fi (by decide +kernel) ?_)) hdb) hc⟩
  show wpAny _ _ (callWith pos (Value.builtin "ValueError.__init__") [] (backTo pos (starEach (e :: es) X.env)) []) _ _ _
  refine PyProof.Rows.callWith_method1 (thn (ha.run pos pins _ σ H _ (I.tok _) h) fun us s1 q => ?_) he hpl
  obtain ⟨vs, H1, I1, r1, a, D, ws, rfl, hl, T, ea, q⟩ := q
  cases r1 with
  | cons ra rw' =>
    cases ra
    refine oinit_ok T I1 ea ?_ fun s2 J => ⟨.non, H1, J, rfl, q⟩
    rw [← Paired.length rw', sizeLine_eq]
    omega
/-- the body of such an __init__ -/
def tInit (K : PySem.W.Frag) (fn : PySem.Str) : TS := fun D σ H => ∃ (a C : Addr) (v : V), σ = [some (.ref a), some v] ∧ OexC K C ∧ PySem.W.findIn K (.ref C) fn = some none ∧ H a = some (exo a C none) ∧
  ∀ dx, H dx = none → dx ≠ a → D.nx σ (upd (upd H dx (exd dx [(fn, v)])) a (exo a C (some dx)))
theorem init_body {m q : PySem.Str} {j : Tok} (hN : X.N = [("self" : PySem.Str), q]) (v0 : Vis X.env.scope "self") (v1 : Vis X.env.scope q) (hg : Gl X n) (hm : X.mg n = some (.ref B)) (C : BaseC X.K B) (hdb : (n == ("__debug__" : PySem.Str)) = false := by decide) {pl : Sem Bool}
    (hc : eval (.Call (.Attribute (.Name n p1) "__init__" p2) [.Name "self" p3, .Constant (.str m) j p4] [] p5) X.env = (do
      let v ← eval (.Name n p1) X.env
      standAt p2.atName
      let (f, us) ← holding [v] (getMethod v "__init__" pl)
      callWith p5 f us (backTo p5 (starEach [.Name "self" p3, .Constant (.str m) j p4] X.env)) (backToKw p5 (keywordEach [] X.env))) := by rfl)
    (e1 : starEach [.Name "self" p3, .Constant (.str m) j p4] X.env = (false, eval (.Name "self" p3) X.env) :: starEach [.Constant (.str m) j p4] X.env := by rfl) (e2 : starEach [.Constant (.str m) j p4] X.env = (false, eval (.Constant (.str m) j p4) X.env) :: starEach [] X.env := by rfl)
    (hpl : (backTo p5 (starEach [.Constant (.str m) j p4] X.env)).any (·.1) = false := by rfl) (s1 : swapsWith (.Call (.Attribute (.Name n p1) "__init__" p2) [.Name "self" p3, .Constant (.str m) j p4] [] p5) none p6.line X.env = pure false := by rfl) (s2 : swapsWith (.Name q p9) (some (.Attribute (.Name "self" p7) fn p8)) p10.line X.env = pure false := by rfl)
    (q1 : (q == ("__debug__" : PySem.Str)) = false := by decide) (q2 : (q == ("__classdict__" : PySem.Str)) = false := by decide) :
    PSs X [.Expr (.Call (.Attribute (.Name n p1) "__init__" p2) [.Name "self" p3, .Constant (.str m) j p4] [] p5) p6, .Assign [.Attribute (.Name "self" p7) fn p8] (.Name q p9) p10] (tInit X.K fn) := by
  have g0 : X.N[0]? = some ("self" : PySem.Str) := by rw [hN]; rfl
  have g1 : X.N[1]? = some q := by rw [hN]; rfl
  have h1 := ps_expr (pe_cinit (pl := pl) (p1 := p1) (p2 := p2) (pos := p5) hg hm C (pa_cons (pe_var (pos := p3) g0 v0) (pa_cons (pe_str (x := m) (j := j) (pos := p4)) pa_nil e2) e1) hdb hc e1 hpl) s1
  have h2 := ps_ost (f := fn) (p' := p8) (pe_var (pos := p7) g0 v0) (pe_var (pos := p9) g1 v1 q1 q2) s2
  refine (pss_cons h1 (pss_one h2)).imp fun D σ H t => ?_
  obtain ⟨a, D0, v, rfl, T, hno, ha, q⟩ := t
  refine ⟨.ref a, rfl, a, D0, [.str m], rfl, by simp, T, ha, ?_⟩
  exact ⟨v, rfl, .ref a, rfl, a, D0, rfl, T, hno, .inl ⟨ha, q⟩⟩
end
/-- what such an __init__ keeps -/
def spI (K : PySem.W.Frag) (C : Addr) (fn : PySem.Str) : Sp := fun vs H Q _ => ∃ (a : Addr) (v : V), vs = [.ref a, v] ∧ H a = some (exo a C none) ∧ ∀ dx, H dx = none → dx ≠ a → Q .non (upd (upd H dx (exd dx [(fn, v)])) a (exo a C (some dx)))
/-- the class x at C, made with one value, its field fn -/
structure ExI (P : Program) (w : World) (K : PySem.W.Frag) (mg : PySem.Str → Option Value) (base : Heap) (C : Addr) (x fn : PySem.Str) : Prop where
  T : OexC K C
  hm : mg x = some (.ref C)
  ex : ∃ (fI : Addr) (fd : FuncData) (ps : List PySem.Str), PySem.W.findIn K (.ref C) "__init__" = some (some (.ref fI)) ∧ PySem.W.typeIn K (.ref fI) = some (.type "function") ∧ FnOk P w K mg base (L2.CX P w) 1 fI fd ps (spI K C fn) ∧ Binds K fd ps []
section
variable {P : Program} {w : World} {K : PySem.W.Frag} {mg : PySem.Str → Option Value} {base : Heap}
theorem init_fn {st : Stmt} {qual q fn : PySem.Str} {C fI : Addr} {fd : FuncData} (F : Fun K "__init__" qual st fI fd) (S : FnScope [("self" : PySem.Str), q] [("self" : PySem.Str), q] (defScope st)) (T : OexC K C) (hno : PySem.W.findIn K (.ref C) fn = some none)
    (hb : ∀ (cdv : Value) (A : Around) (outer : List PySem.Env) (s : Shared) (H : Hp) (E : XK), PSs (cxOf (L2.CX P w) P w K mg base [("self" : PySem.Str), q] qual (defScope st) fI cdv A outer s H E) (defBody st) (tInit K fn)) : FnOk P w K mg base (L2.CX P w) 1 fI fd [("self" : PySem.Str), q] (spI K C fn) := by
  refine F.okX S (fun vs H Q E h => ?_) fun cdv A outer s H vs Q E hr h => ⟨_, hb cdv A outer s H E, ?_⟩
  · obtain ⟨a, v, rfl, _⟩ := h
    rfl
  · obtain ⟨a, v, rfl, ha, h⟩ := h
    exact ⟨a, C, v, rfl, T, hno, ha, h⟩
end
section
variable {X : Cx} {cls : Cl} {W : WX}
theorem gs_raiseF (c : Nat) (f : List Nat) {d : PF.D} (gd : Grow d) : GrowS (sRaiseF c f d) := fun ρ h => growsS.onR (gd ρ h) fun w h1 _ l => l
theorem passes_no {P : Program} {w : World} : Passes (L2.CX P w) X (fun _ _ _ => False) := fun pins σ H s e s' _ h => by
  obtain ⟨_, _, _, _, _, _, _, _, _, _, _, _, z⟩ := h
  exact z.elim
theorem rs_raiseF (c : Nat) (f : List Nat) {x fn : PySem.Str} {e : Expr} {d : PF.D} {p pos pos' : Pos} (hc : X.calm = true) (tk : Takes X W) (F : ExI X.prog X.w X.K X.mg X.base (cls c) x fn) (hf : fn = sS f) (hr : Room 2 X.A) (hg : Gl X x) (he : RE X cls W e d) (hdb : (x == ("__debug__" : PySem.Str)) = false := by decide)
    (e1 : starEach [e] X.env = (false, eval e X.env) :: starEach [] X.env := by rfl) (e2 : (backTo pos (starEach [] X.env)).any (·.1) = false := by rfl) :
    RS X cls W (.Raise (some (.Call (.Name x p) [e] [] pos)) none pos') (sRaiseF c f d) := by
  obtain ⟨fI, fd, ps, h1, h2, h3, h4⟩ := F.ex
  refine ⟨(ps_raise hc tk (pmk_oex F.T h1 h2 h3 hr h4 .nil passes_no hg F.hm (pa_cons he.pe pa_nil e1) hdb e1 e2)).imp fun D σ H t => t.ok fun φ h ρ x p => ?_, gs_raiseF c f he.g⟩
  refine x.firstS (he.g ρ h) p fun v H1 φ1 w1 h1 g1 x1 p1 => ?_
  refine ⟨by simp, fun a ha => ⟨a, v, rfl, upd_same, fun dx hdx hne => ⟨rfl, dx, [(fn, v)], ?_, ?_, ?_, ?_⟩⟩⟩
  · exact upd_same
  · rw [upd_ne hne, upd_same]
  · rw [upd_ne hne] at hdx
    exact hdx
  · rw [upd_ne hne] at hdx
    have eH : upd (del (upd (upd (upd H1 a (exo a (cls c) none)) dx (exd dx [(fn, v)])) a (exo a (cls c) (some dx))) a) dx (.xd [(fn, v)]) = upd H1 dx (.xd [(fn, v)]) := by
      funext b
      by_cases hb : b = dx
      · rw [hb, upd_same, upd_same]
      · rw [upd_ne hb, upd_ne hb]
        by_cases hba : b = a
        · rw [hba, del_same, ha]
        · rw [del_ne hba, upd_ne hba, upd_ne hb, upd_ne hba]
    rw [eH]
    have k := keep_new (o := .xd [(fn, v)]) hdx
    exact p1 φ1 (some dx) σ _ (Ext.refl _ _) k ⟨x1.C.other hdx, x1.S.mono (Ext.refl _ _) (Nat.le_refl _) k⟩ ⟨dx, v, rfl, by rw [upd_same, hf], g1.r.mono (Ext.refl _ _) (Nat.le_refl _) k⟩
end
section
variable {X : Cx} {cls : Cl} {W : WX}
/-! ### xs[i] op= e -/
theorem get_l : PGet X (fun o i H Q => ∃ (p : Addr) (xs : List V) (j : Int) (v : V), o = .ref p ∧ i = .int j ∧ 0 ≤ j ∧ H p = some (.lst xs) ∧ xs[j.toNat]? = some v ∧ Q v H) := by
  rintro pins s σ H o i ov iv Q I ro ri ⟨p, xs, j, v, rfl, rfl, h0, hp, hv, q⟩
  cases ro
  obtain ⟨t, rfl⟩ := ri
  obtain ⟨its, r, pl, hz⟩ := I.list (.of hp)
  obtain ⟨w, ew, rw'⟩ := r.get hv
  have hl := (List.getElem?_eq_some_iff.mp hv).1
  have hn := line63
  exact wpAny_getItem_list (Q := EP X pins σ Q) pl.isList h0 (by omega) (by simpa using ew) ⟨v, H, I, rw', q⟩
theorem gs_augX {o : PF.W → PF.W → Hs → Res PF.W} {da db de : PF.D} (go : GrO o) (ga : Grow da) (gb : Grow db) (ge : Grow de) : GrowS (sAugX o da db de) := fun ρ h =>
  growsS.onR (ga ρ h) fun x h1 _ l1 => growsS.onR ((gb ρ h1).le l1) fun y h2 _ l2 => by
    split
    · exact growsS.onR ((ge ρ h2).le l2) fun v h4 _ l4 => growsS.onR ((go _ v h4).le l4) fun z h5 _ l5 => by
        split
        · rename_i h6 e6
          show h.length ≤ h6.length
          rw [stL_len e6]
          exact l5
        · trivial
    · trivial
theorem rs_augX (hu : X.A.units + 64 < cLine) {op : Operator} {f : Int → Int → Int} {o : PF.W → PF.W → Hs → Res PF.W} {a b e : Expr} {pos tpos : Pos} {da db de : PF.D} (ha : RE X cls W a da) (hb : RE X cls W b db) (he : RE X cls W e de) (hI : PIp X op (ipI f)) (go : GrO o)
    (ho : ∀ (w u : PF.W) (h : Hs), o w u h = .stuck ∨ ∃ i j, w = .int i ∧ u = .int j ∧ o w u h = .ok (.int (f i j)) h)
    (hs : ∀ ov iv new, augStore b ov iv new = (do holding [new, ov, iv] (setItem ov iv new); release [new, ov, iv] []; pure .next) := by intros; rfl) : RS X cls W (.AugAssign (.Subscript a b tpos) op e pos) (sAugX o da db de) :=
  ⟨(ps_augS ha.pe hb.pe get_l he.pe hI (set_s hu (cls := cls)) hs).imp fun D σ H t => t.ok fun φ h ρ x p => x.firstS (ha.g ρ h) p fun v H1 φ1 w1 h1 g1 x1 p1 => x1.firstS (hb.g ρ h1) p1 fun u H2 φ2 w2 h2 g2 x2 p2 => by
    split at p2
    · rename_i z ez
      unfold ixL at ez
      split at ez
      · rename_i i k
        split at ez
        · rename_i ws ei
          split at ez
          · rename_i hk
            have r1 : VR X.K φ2 h2.length H2 (.ref i) v := VR.mono g2.e g2.l g2.k g1.r
            have r2 : VR X.K φ2 h2.length H2 (.int k) u := g2.r
            cases r2
            cases r1 with
            | ref hi =>
              obtain ⟨vs, hv1, hv2⟩ := g2.C.cell _ _ ei
              obtain ⟨y, hy, ry⟩ := hv2.get ez
              refine ⟨_, vs, k, y, rfl, rfl, hk, hv1, hy, ?_⟩
              refine x2.firstS (he.g ρ h2) p2 fun q H4 φ4 w4 h4 g4 x4 p4 => ?_
              rcases ho z w4 h4 with e4 | ⟨m, n, rfl, rfl, e4⟩
              · rw [e4] at p4
                exact p4.elim
              · rw [e4] at p4
                cases ry
                have r4 : VR X.K φ4 h4.length H4 (.int n) q := g4.r
                cases r4
                refine ⟨m, n, rfl, rfl, ?_⟩
                have p4 : PostS X.K cls φ4 h4.length H4 W D (match stL (.ref i) (.int k) (.int (f m n)) h4 with | some h6 => .nx ρ h6 | none => .stuck) := p4
                split at p4
                · rename_i h6 e6
                  refine ⟨φ4, h4, .ref i, .int k, .int (f m n), g4.C, ?_, .int k, .int _, h6, e6, fun H' kk C' => p4 φ4 σ H' (Ext.refl _ _) kk ⟨C', ?_⟩⟩
                  · exact VR.mono g4.e g4.l g4.k (.ref hi)
                  · rw [stL_len e6]
                    exact x4.S.mono (Ext.refl _ _) (Nat.le_refl _) kk
                · exact p4.elim
          · cases ez
        · cases ez
      · cases ez
    · exact p2.elim, gs_augX go ha.g hb.g he.g⟩
end
theorem xf_of {K : PySem.W.Frag} {D : Addr} (C : ExcC K D) : XfC K D := ⟨C.hg, C.hk, C.hs, C.hd⟩
end PF
namespace PF
open PySem PySem.Spec PyProof.Rows L2
section
variable {X : Cx} {cls : Cl} {W : WX}
theorem ri_revR {tg e : Expr} {d : PF.D} {p p2 pos pos2 : Pos} (hg : Gl X "reversed") (hm : X.mg "reversed" = none) (hg2 : Gl X "range") (hm2 : X.mg "range" = none) (he : RE X cls W e d)
    (hs1 : starEach [e] X.env = (false, eval e X.env) :: starEach [] X.env := by rfl) (hs : starEach [.Call (.Name "range" p2) [e] [] pos2] X.env = (false, eval (.Call (.Name "range" p2) [e] [] pos2) X.env) :: starEach [] X.env := by rfl) :
    RI X cls W tg (.Call (.Name "reversed" p) [.Call (.Name "range" p2) [e] [] pos2] [] pos) (iRevR d) := by
  refine ⟨(pi_revR hg hm (prg_1 hg2 hm2 he.pe hs1) hs).imp fun σ H R t => ?_, fun ρ h => (he.g ρ h).bind fun w h1 _ l => by
    split
    · split
      · exact l
      · trivial
    · trivial⟩
  obtain ⟨φ, h, ρ, x, p⟩ := t
  refine x.first (he.g ρ h) p fun v H1 φ1 w1 h1 g1 x1 p1 => ?_
  have r1 : VR X.K φ1 h1.length H1 w1 v := g1.r
  split at p1
  · rename_i j
    split at p1
    · rename_i hj
      cases r1
      refine ⟨j, rfl, by omega, by omega, hj.1, hj.2, p1 φ1 _ H1 (Ext.refl _ _) (Keep.refl _) g1.C ?_⟩
      intro φ2 h2 H2 e2 l2 k2 C2 st
      refine ⟨?_, fun i w hw => ?_⟩
      · show (j - 0).toNat ≤ (rngRev j.toNat).length
        rw [rngRev, List.length_map, List.length_range]
        omega
      · have hw : (rngRev j.toNat)[i]? = some w := hw
        rw [rngRev, List.getElem?_map] at hw
        by_cases hi : i < j.toNat
        · rw [List.getElem?_range hi] at hw
          cases hw
          refine ⟨by show i < (j - 0).toNat; omega, fun y H3 hy => ?_⟩
          obtain ⟨rfl, rfl⟩ := hy
          refine ⟨Keep.refl _, C2, ?_⟩
          have : (0 : Int) + (((j - 0).toNat : Nat) : Int) - 1 + (i : Int) * (-1) = ((j.toNat : Nat) : Int) - 1 - (i : Int) := by omega
          rw [this]
          exact .int _
        · rw [List.getElem?_eq_none (by rw [List.length_range]; omega)] at hw
          cases hw
    · exact p1.elim
  · exact p1.elim
theorem gi_revR {d : PF.D} (g : Grow d) : Grow (iRevR d) := fun ρ h => (g ρ h).bind fun w h1 _ l => by
  split
  · split
    · exact l
    · trivial
  · trivial
theorem m_insert : MtR X "list.insert" (rM X.K cls mInsert) := by
  rintro pins s σ H x xs v us Q I rx rs ⟨φ, h, w, ws, E, C, r, t, p⟩
  unfold mInsert at p
  split at p
  · split at p
    · rename_i ws' ei
      split at p
      · rename_i hl
        cases r with
        | ref hi =>
          cases t with
          | cons t1 tt =>
            cases tt with
            | cons t2 tt =>
              cases tt
              cases t1
              obtain ⟨vs, hv1, hv2⟩ := C.cell _ _ ei
              exact mt_insert pins s σ H _ _ v us Q I rx rs ⟨_, vs, _, _, rfl, rfl, hv1, by rw [← hv2.length, ← bigL_eq]; exact hl.1, hl.2.1, by omega, post_set C ei hv1 (((hv2.take _).append (.cons t2 .nil)).append (hv2.drop _)) .non p⟩
      · exact p.elim
    · exact p.elim
  · exact p.elim
theorem gm_insert : GrM mInsert := fun w ws h => by
  unfold mInsert
  split
  · split
    · split
      · show h.length ≤ (h.set _ _).length
        rw [List.length_set]
        exact Nat.le_refl _
      · trivial
    · trivial
  · trivial
theorem gr_vals (i k : Nat) : Grow (dVals i k) := fun ρ h => by
  unfold dVals
  split
  · split
    · split
      · split
        · exact newL_grows _ _
        · trivial
      · trivial
    · trivial
  · trivial
theorem mapO_get {α β : Type} {f : α → Option β} : ∀ {l : List α} {ys : List β}, mapO f l = some ys → ∀ (i : Nat) (a : α), l[i]? = some a → ∃ b, ys[i]? = some b ∧ f a = some b
  | [], _, _, i, a, h => by simp at h
  | x :: l, ys, e, i, a, h => by
    rw [mapO] at e
    obtain ⟨b, e1, e⟩ := Option.bind_eq_some_iff.mp e
    obtain ⟨bs, e2, e⟩ := Option.bind_eq_some_iff.mp e
    cases e
    cases i with
    | zero => cases h; exact ⟨b, rfl, e1⟩
    | succ i => exact mapO_get e2 i a h
theorem vals_rel {K : PySem.W.Frag} {φ : Phi} {n : Nat} {H : Hp} {kvs : List (PF.Key × PF.W)} {ks : List (L2.Key × V)} (r : KR K φ n H kvs ks) : ∀ (l : List (PF.Key × PF.W)) (m : List (L2.Key × V)) (ws : List PF.W), KR K φ n H l m → mapO (fun p : PF.Key × PF.W => lookK kvs p.1) l = some ws →
    ∃ vs, VRs K φ n H ws vs ∧ vs.length = m.length ∧ ∀ (i : Nat) (k : L2.Key) (v : V), m[i]? = some (k, v) → ∃ u, vs[i]? = some u ∧ L2.valV ks k = some u
  | [], _, _, .nil, e => by cases e; exact ⟨[], .nil, rfl, fun i k v h => by simp at h⟩
  | p :: l, q :: m, _, .cons a t, e => by
    rw [mapO] at e
    obtain ⟨b, e1, e⟩ := Option.bind_eq_some_iff.mp e
    obtain ⟨bs, e2, e⟩ := Option.bind_eq_some_iff.mp e
    cases e
    obtain ⟨vs, v1, v2, v3⟩ := vals_rel r l m bs t e2
    obtain ⟨u, hu, ru⟩ : ∃ u, L2.valV ks (keyV p.1) = some u ∧ VR K φ n H b u := by
      rcases r.look p.1 with ⟨w, v, x1, x2, x3⟩ | ⟨x1, _⟩
      · rw [e1] at x1
        cases x1
        exact ⟨v, x2, x3⟩
      · rw [e1] at x1
        cases x1
    refine ⟨u :: vs, .cons ru v1, by rw [List.length_cons, List.length_cons, v2], fun i k v h => ?_⟩
    cases i with
    | zero =>
      have h : q = (k, v) := by simpa using h
      subst h
      have e3 : k = keyV p.1 := a.1.1
      exact ⟨u, rfl, by rw [e3]; exact hu⟩
    | succ i => exact v3 i k v (by simpa using h)
theorem re_vals (hu : X.A.units + 64 < cLine) (i k : Nat) {dn kn : PySem.Str} {p1 p2 p3 p4 p5 pos : Pos} {scope : Scope} (hc : X.calm = true) (hN : X.N.Nodup) (hi : X.N[i]? = some dn) (hv : Vis X.env.scope dn) (ok : BlkOk X.N X.env.scope scope [(kn, k)])
    (hg : ∀ (s : Shared) (H : Hp) (C : Addr) (cl : List (PySem.Str × Addr)) (fp : List Addr), PG (X.blk s H scope (compEnvC scope cl C X.env) fp) (.Name kn p4) (gName k))
    (h1 : ∀ (s : Shared) (H : Hp) (C : Addr) (cl : List (PySem.Str × Addr)) (fp : List Addr), PE (X.blk s H scope (compEnvC scope cl C X.env) fp) (.Name dn p1) (tVar i))
    (h2 : ∀ (s : Shared) (H : Hp) (C : Addr) (cl : List (PySem.Str × Addr)) (fp : List Addr), PE (X.blk s H scope (compEnvC scope cl C X.env) fp) (.Name kn p2) (tVar k))
    (hd : (dn == ("__debug__" : PySem.Str)) = false := by decide) (hcd : (dn == ("__classdict__" : PySem.Str)) = false := by decide) (hns : NoSl (.Name kn p2) := by exact fun _ _ => rfl) (hs : ∀ x, foldedSetIterable (.Name dn p5) X.env x = pure x := by intro _; rfl) :
    RE X cls W (.ListComp (.Subscript (.Name dn p1) (.Name kn p2) p3) [⟨.Name kn p4, .Name dn p5, [], 0⟩] scope pos) (dVals i k) := by
  have hlc := pe_lock (pe_lc (pos := pos) hc hN (pi_keys (tg := .Name kn p4) (pe_var (pos := p5) hi hv hd hcd)) ok hg (fun _ _ _ _ _ => pts_nil) (fun s H C cl fp => pe_dget (pos := p3) (show X.A.units + 1 < cLine by omega) (h1 s H C cl fp) (h2 s H C cl fp) hns) hs)
  refine ⟨hlc.imp fun σ H Q t => t.ok fun φ h ρ x p => ?_, gr_vals i k⟩
  unfold dVals at p
  split at p
  · rename_i r er
    split at p
    · rename_i kvs ekv
      split at p
      · rename_i hb
        obtain ⟨hb, hik, hkl⟩ := hb
        split at p
        · rename_i ws ews
          obtain ⟨v, hσ, rv⟩ := x.S.2 i _ er
          cases rv with
          | ref hr =>
            obtain ⟨ks, hk1, hk2⟩ := x.C.cell _ _ ekv
            obtain ⟨vs, v1, v2, v3⟩ := vals_rel hk2 kvs ks ws hk2 ews
            have kl : kvs.length = ks.length := Paired.length hk2
            refine ⟨φ r, .dK ks, hk1, trivial, fun od => ?_⟩
            refine ⟨_, hσ, φ r, od, rfl, .inl ⟨ks, upd_same, fun D hD => ?_⟩⟩
            have hne : φ r ≠ D := fun z => by rw [← z, upd_same] at hD; cases hD
            have hD0 : H D = none := by rw [upd_ne hne.symm] at hD; exact hD
            have key := lc_it (g := gName k) (tt := L2.tYes) (te := tDGet (tVar i) (tVar k)) (vs := [k]) (σ := σ) (H1 := upd H (φ r) (.frz od (.dK ks))) (D := D) (Qd := fun H' => H' (φ r) = some (.frz od (.dK ks)) ∧ Q (.ref D) (upd H' (φ r) (.dK ks))) (walk_keys (d := φ r) (o := od) (kvs := ks)) (fun j H2 => H2 = upd (upd H (φ r) (.frz od (.dK ks))) D (.lst (vs.take j))) (by rw [List.take_zero]) (fun j H2 _ e => by rw [e, upd_ne hne, upd_same]) (fun j y H2 H3 hj e hy => ?_) (fun H2 e => ?_)
            · exact key
            · obtain ⟨rfl, kk, vv, hkv, rfl⟩ := hy
              obtain ⟨u, hu1, hu2⟩ := v3 j kk vv hkv
              have hw : L2.wipe σ [k] = σ.set k none := rfl
              have hlen : k < σ.length := by rw [← x.S.1]; exact hkl
              refine ⟨by rw [hw]; show ((σ.set k none).set k _).set k none = _; rw [List.set_set, List.set_set], ?_⟩
              show tDGet (tVar i) (tVar k) ((L2.wipe σ [k]).set k (some (kV kk))) H3 _
              refine ⟨_, by rw [hw, List.set_set, List.getElem?_set, if_neg (fun z => hik z.symm)]; exact hσ, kV kk, by rw [hw, List.set_set, List.getElem?_set, if_pos rfl, if_pos hlen], φ r, u, rfl, .inl ⟨ks, kk, .inr ⟨od, by rw [e, upd_ne hne, upd_same]⟩, rfl, hu2.symm⟩, ?_⟩
              refine ⟨vs.take j, by rw [e, upd_same], by rw [List.length_take, ← bigL_eq]; omega, ?_⟩
              rw [e, upd_upd, List.take_add_one, hu1]
              rfl
            · refine ⟨by rw [e, upd_ne hne, upd_same], ?_⟩
              have e2 : upd H2 (φ r) (.dK ks) = upd H D (.lst vs) := by
                rw [e, ← v2, List.take_length]
                funext b
                by_cases hb1 : b = φ r
                · rw [hb1, upd_same, upd_ne hne, hk1]
                · rw [upd_ne hb1]
                  by_cases hb2 : b = D
                  · rw [hb2, upd_same, upd_same]
                  · rw [upd_ne hb2, upd_ne hb2, upd_ne hb1]
              rw [e2]
              exact post_lst x.C v1 p D hD0
        · exact p.elim
      · exact p.elim
    · exact p.elim
  · exact p.elim
end
section
variable {X : Cx} {cls : Cl} {W : WX}
theorem ints_vs {K : PySem.W.Frag} {φ : Phi} {n : Nat} {H : Hp} : ∀ {ws : List PF.W} {vs : List V} {ns : List Int}, VRs K φ n H ws vs → intsOf ws = some ns → vs = ns.map V.int
  | [], _, _, .nil, e => by cases e; rfl
  | w :: ws, v :: vs, ns, .cons r t, e => by
    cases r with
    | int i =>
      rw [intsOf] at e
      obtain ⟨is, e1, e2⟩ := Option.map_eq_some_iff.mp e
      subst e2
      rw [ints_vs t e1]
      rfl
    | _ => cases e
theorem lexI_is : ∀ (ns ms : List Int), lexI ns ms = HT.lexLt ns ms
  | [], [] => rfl
  | [], _ :: _ => rfl
  | _ :: _, [] => rfl
  | x :: xs, y :: ys => by rw [lexI, HT.lexLt, lexI_is xs ys]
theorem o_ltT (hu : X.A.units + 64 < cLine) : OpR X (compareOp .Lt) (rO X.K cls oLtT) := by
  rintro pins s σ H x y v u Q I rx ry ⟨φ, h, w1, w2, E, C, r1, r2, p⟩
  unfold oLtT at p
  split at p
  · split at p
    · rename_i ns ms e1 e2
      cases r1 with
      | tup q1 t1 =>
        cases r2 with
        | tup q2 t2 =>
          rw [ints_vs t1 e1] at q1
          rw [ints_vs t2 e2] at q2
          refine op_ltT (by omega) pins s σ H _ _ v u Q I rx ry ⟨_, _, ns, ms, rfl, rfl, q1, q2, ?_⟩
          rw [← lexI_is]
          exact rO_ok C p (.bl _)
    · exact p.elim
  · exact p.elim
theorem g_ltT : GrO oLtT := fun w u h => by
  unfold oLtT
  split
  · split <;> first | exact Nat.le_refl _ | trivial
  · trivial
end
end PF
namespace PF
open PySem PySem.Spec PyProof.Rows L2
/-! ### sorted(..) of pairs of texts -/
abbrev PrA := Pr × Addr
def keyPr (p : Pr) : List (Int ⊕ List Nat) := [.inr p.1, .inr p.2]
def allT : Nat → Bool := fun _ => true
theorem key_le {a b : Pr} (h : lexLt itemOrd (keyPr b) (keyPr a) = false) : lePr a b = true := by
  have h : (decide (b.1 < a.1) || (!decide (a.1 < b.1) && (decide (b.2 < a.2) || (!decide (a.2 < b.2) && false)))) = false := h
  refine lePr_of (fun z => ?_) ?_
  · rw [decide_eq_true z] at h; simp at h
  · by_cases y : a.1 < b.1
    · exact .inl y
    · refine .inr fun z => ?_
      rw [decide_eq_true z, decide_eq_false y] at h; simp at h
/-- pairs of texts at hand -/
theorem pr_at {X : Cx} {pins : List (Addr × Obj)} {σ : L2.St} {H : Hp} {s : Shared} (I : L2.Inv X pins σ H s) {t : PrA} (h : SqT X.K H t.2 [.str (sS t.1.1), .str (sS t.1.2)]) :
    (∃ f, TupOf s.heap allT (.ref t.2) f) ∧ G.tupKeyC s.heap allT (.ref t.2) = some (keyPr t.1) := by
  obtain ⟨its, rv, ⟨o, e, c, n, d⟩, _⟩ := I.tuple h
  obtain ⟨u, v, rfl, ⟨t1, rfl⟩, ⟨t2, rfl⟩⟩ := vals2 rv
  refine ⟨⟨_, t.2, o, _, n, rfl, e, c, d, rfl, fun z => (by cases z), fun _ => ⟨_, _, rfl⟩⟩, ?_⟩
  have k1 : G.isTupObj s.heap (.ref t.2) = true := by simp [G.isTupObj, e, c]
  unfold G.tupKeyC
  rw [if_pos k1]
  simp [tupKey, e, d, tupItems, allT, keyPr, sS]
theorem refs_of : ∀ (ts : List PrA) (us : List Value), Vals (ts.map fun t => V.ref t.2) us → us = ts.map fun t => Value.ref t.2
  | [], us, r => by cases r; rfl
  | t :: ts, us, r => by
    cases r with
    | cons r1 r2 =>
      have e1 : _ = Value.ref t.2 := r1
      rw [refs_of ts _ r2, e1]; rfl
theorem vals_refs : ∀ ts : List PrA, Vals (ts.map fun t => V.ref t.2) (ts.map fun t => Value.ref t.2)
  | [] => .nil
  | t :: ts => .cons rfl (vals_refs ts)
theorem tups_of {h : Heap} : ∀ ts : List PrA, (∀ t, t ∈ ts → ∃ f, TupOf h allT (.ref t.2) f) → ∃ fs, TupsOf h allT (ts.map fun t => Value.ref t.2) fs
  | [], _ => ⟨[], .nil⟩
  | t :: ts, k => by
    obtain ⟨f, hf⟩ := k t (List.mem_cons_self ..)
    obtain ⟨fs, hs⟩ := tups_of ts fun u hu => k u (List.mem_cons_of_mem _ hu)
    exact ⟨f :: fs, .cons hf hs⟩
theorem zip_self : ∀ ts : List PrA, (ts.map fun t => Value.ref t.2).zip (ts.map fun t => Value.ref t.2) = ts.map fun t => ((Value.ref t.2, Value.ref t.2) : Keyed)
  | [] => rfl
  | t :: ts => by rw [List.map_cons, List.map_cons, List.zip_cons_cons, zip_self ts]
section
variable {X : Cx}
theorem cr_sortPr : CallR X (.builtin "sorted") (fun xs H Q => ∃ (a : Addr) (ts : List PrA), xs = [.ref a] ∧ SqL X.K H a (ts.map fun t => V.ref t.2) ∧ (∀ t, t ∈ ts → SqT X.K H t.2 [.str (sS t.1.1), .str (sS t.1.2)]) ∧
    ∀ (ts' : List PrA) q, ts'.Perm ts → (ts'.map Prod.fst).Pairwise (fun a b => lePr a b = true) → H q = none → Q (.ref q) (upd H q (.lst (ts'.map fun t => V.ref t.2)))) := by
  intro pins s σ H xs us Q I r h
  obtain ⟨a, ts, rfl, hs, ht, q⟩ := h
  obtain ⟨its, rv, hl, hz⟩ := I.list hs
  obtain rfl := Vals.ref1 r
  have ei := refs_of ts its rv
  have keys : ∀ t, t ∈ ts → _ := fun t h => pr_at I (ht t h)
  obtain ⟨fs, hf⟩ := tups_of (h := s.heap) ts fun t h => (keys t h).1
  rw [List.length_map] at hz
  have li : its.length ≤ sizeLine := by rw [ei, List.length_map]; exact hz
  refine G.sorted_tups (vs := its) (fs := fs) (shape := allT) hl.isList (by rw [ei]; exact hf) (fun v hv => ?_) li fun st' p1 p2 _ => ?_
  · rw [ei] at hv
    obtain ⟨t, h, rfl⟩ := List.mem_map.mp hv
    exact ⟨_, (keys t h).2⟩
  · obtain ⟨arr, harr⟩ : ∃ arr, arr = arrOf st' := ⟨_, rfl⟩
    rw [← harr] at p1 p2 ⊢
    have el : (pairsOf its).toList = ts.map fun t => ((Value.ref t.2, Value.ref t.2) : Keyed) := by
      rw [pairsOf_toList, ei]
      exact zip_self ts
    obtain ⟨ts', pm, e⟩ := perm_map_inv (Array.perm_iff_toList_perm.mp p1) ts el
    have eo : (arr.map (·.2)).toList = ts'.map fun t => Value.ref t.2 := by
      rw [Array.toList_map, e, List.map_map]; rfl
    have sz : (pairsOf its).size = ts'.length := by rw [← Array.length_toList, el, List.length_map, pm.length_eq]
    have pw : (ts'.map Prod.fst).Pairwise (fun a b => lePr a b = true) := by
      rw [List.pairwise_map, List.pairwise_iff_getElem]
      intro i j hi hj hij
      have k := p2 i j (Nat.le_of_lt hij) (by rw [sz]; exact hj)
      have kk : ∀ (m : Nat) (hm : m < ts'.length), KK (G.tupKindC s.heap allT) arr m = keyPr ts'[m].1 := fun m hm => by
        have e1 : arr[m]? = some (.ref ts'[m].2, .ref ts'[m].2) := by
          rw [← Array.getElem?_toList, e, List.getElem?_map, List.getElem?_eq_getElem hm]; rfl
        unfold KK
        rw [e1]
        dsimp only
        rw [(keys ts'[m] (pm.mem_iff.mp (List.getElem_mem hm))).2]
        rfl
      rw [kk i hi, kk j hj] at k
      exact key_le k
    obtain ⟨ep, he'⟩ := PyProof.Rows.sortedAll_at s.heap its (arr.map (·.2))
    have hlen : (ts'.map fun t => V.ref t.2).length ≤ sizeLine := by rw [List.length_map, pm.length_eq]; exact hz
    have vo : Vals (ts'.map fun t => V.ref t.2) (arr.map (·.2)).toList := by rw [eo]; exact vals_refs ts'
    exact ⟨.ref _, upd H (s.heap.objs.size + 1) (.lst (ts'.map fun t => V.ref t.2)), I.laid (t' := s.toks) (fun _ _ => PyProof.Rows.sortedAll_old) (Nat.le_succ _) ⟨hlen, _, ep, vo, he'⟩, rfl, q ts' _ pm pw (I.hok.fresh (Nat.le_succ _))⟩
end
end PF
namespace PF
open PySem PySem.Spec PyProof.Rows L2
/-! ### sorted(..), texts -/
theorem rising_pw : ∀ (zs : List (List Nat)) (p : List Nat), risingS (sS p) (zs.map sS) = true → (p :: zs).Pairwise (· ≤ ·)
  | [], p, _ => List.pairwise_singleton _ _
  | z :: zs, p, e => by
    rw [List.map_cons, risingS, Bool.and_eq_true] at e
    have ih := rising_pw zs z e.2
    have hz : p ≤ z := by
      have e1 := e.1
      rw [ltCps_eq] at e1
      have e2 : (sS z).cps.toList = z := by simp [sS]
      have e3 : (sS p).cps.toList = p := by simp [sS]
      rw [e2, e3] at e1
      simpa using e1
    refine List.pairwise_cons.mpr ⟨fun a ha => ?_, ih⟩
    rcases List.mem_cons.mp ha with rfl | ha
    · exact hz
    · exact List.le_trans hz ((List.pairwise_cons.mp ih).1 a ha)
theorem sorted_pw (zs : List (List Nat)) (e : sortedS (zs.map sS) = true) : zs.Pairwise (· ≤ ·) := by
  cases zs with
  | nil => exact List.Pairwise.nil
  | cons z zs => exact rising_pw zs z e
theorem sS_list (y : PySem.Str) : sS y.cps.toList = y := by
  cases y with
  | mk c => simp [sS]
theorem sorted_is {ss : List (List Nat)} {ys : List PySem.Str} (hp : ys.Perm (ss.map sS)) (hs : sortedS ys = true) : ys = (sortS ss).map sS := by
  have e1 : (ys.map fun y => y.cps.toList).map sS = ys := by
    rw [List.map_map]
    exact (List.map_congr_left (fun y _ => sS_list y)).trans (List.map_id _)
  have e2 : (ys.map fun y => y.cps.toList).Perm ss := by
    have := hp.map fun y : PySem.Str => y.cps.toList
    rw [List.map_map] at this
    have e3 : ss.map ((fun y : PySem.Str => y.cps.toList) ∘ sS) = ss := (List.map_congr_left (fun y _ => by simp [sS])).trans (List.map_id _)
    rwa [e3] at this
  rw [← e1] at hs
  rw [← e1, sortS_of e2 (sorted_pw _ hs)]
theorem strsOf_at {K : PySem.W.Frag} {φ : Phi} {n : Nat} {H : Hp} : ∀ {ws : List PF.W} {vs : List V} {ss : List (List Nat)}, VRs K φ n H ws vs → strsOf ws = some ss → vs = (ss.map sS).map V.str ∧ ∀ s, s ∈ ss → okS s
  | [], _, _, .nil, e => by cases e; exact ⟨rfl, fun _ h => by cases h⟩
  | .str i :: ws, _, ss, .cons (.str _ ok) t, e => by
    rw [strsOf] at e
    cases e1 : strsOf ws with
    | none => rw [e1] at e; cases e
    | some r =>
      rw [e1] at e
      cases e
      obtain ⟨h1, h2⟩ := strsOf_at t e1
      refine ⟨by rw [h1]; rfl, fun s hs => ?_⟩
      rcases List.mem_cons.mp hs with rfl | hs
      · exact ok
      · exact h2 s hs
  | .int _ :: _, _, _, .cons _ _, e => by cases e
  | .bl _ :: _, _, _, .cons _ _, e => by cases e
  | .non :: _, _, _, .cons _ _, e => by cases e
  | .ref _ :: _, _, _, .cons _ _, e => by cases e
  | .err :: _, _, _, .cons _ _, e => by cases e
  | .errF _ _ :: _, _, _, .cons _ _, e => by cases e
  | .tup _ :: _, _, _, .cons _ _, e => by cases e
  | .fl _ :: _, _, _, .cons _ _, e => by cases e
theorem strs_vr {K : PySem.W.Frag} {φ : Phi} {n : Nat} {H : Hp} : ∀ ss : List (List Nat), (∀ s, s ∈ ss → okS s) → VRs K φ n H (ss.map PF.W.str) ((ss.map sS).map V.str)
  | [], _ => .nil
  | s :: ss, h => .cons (.str s (h s (List.mem_cons_self ..))) (strs_vr ss fun t ht => h t (List.mem_cons_of_mem _ ht))
theorem keysS_at {K : PySem.W.Frag} {φ : Phi} {n : Nat} {H : Hp} : ∀ {kvs : List (Key × PF.W)} {ks : List (L2.Key × V)} {ss : List (List Nat)}, KR K φ n H kvs ks → keysS kvs = some ss → ks.map (·.1) = (ss.map sS).map Sum.inr ∧ ∀ s, s ∈ ss → okS s
  | [], _, _, .nil, e => by cases e; exact ⟨rfl, fun _ h => by cases h⟩
  | (.inr s0, w) :: kvs, _, ss, .cons (b := q) r t, e => by
    rw [keysS] at e
    cases e1 : keysS kvs with
    | none => rw [e1] at e; cases e
    | some r' =>
      rw [e1] at e
      cases e
      obtain ⟨h1, h2⟩ := keysS_at t e1
      refine ⟨by rw [List.map_cons, h1, r.1.1]; rfl, fun s hs => ?_⟩
      rcases List.mem_cons.mp hs with rfl | hs
      · exact r.1.2
      · exact h2 s hs
  | (.inl _, _) :: _, _, _, .cons _ _, e => by cases e
theorem keysI_at {K : PySem.W.Frag} {φ : Phi} {n : Nat} {H : Hp} : ∀ {kvs : List (Key × PF.W)} {ks : List (L2.Key × V)} {ss : List Int}, KR K φ n H kvs ks → keysI kvs = some ss → ks.map (·.1) = ss.map Sum.inl
  | [], _, _, .nil, e => by cases e; rfl
  | (.inl s0, w) :: kvs, _, ss, .cons (b := q) r t, e => by
    rw [keysI] at e
    cases e1 : keysI kvs with
    | none => rw [e1] at e; cases e
    | some r' =>
      rw [e1] at e
      cases e
      rw [List.map_cons, keysI_at t e1, r.1.1]; rfl
  | (.inr _, _) :: _, _, _, .cons _ _, e => by cases e
theorem asPr_at {w : PF.W} {p : Pr} (e : asPr w = some p) : w = .tup [.str p.1, .str p.2] := by
  unfold asPr at e
  split at e
  · cases e; rfl
  · cases e
theorem prsOf_cons {w : PF.W} {ws : List PF.W} {ps : List Pr} (e : prsOf (w :: ws) = some ps) : ∃ a b r, w = .tup [.str a, .str b] ∧ prsOf ws = some r ∧ ps = (a, b) :: r := by
  rw [prsOf] at e
  cases e1 : asPr w with
  | none => rw [e1] at e; cases e
  | some p =>
    rw [e1, Option.bind_some] at e
    cases e2 : prsOf ws with
    | none => rw [e2] at e; cases e
    | some r => rw [e2] at e; cases e; exact ⟨p.1, p.2, r, asPr_at e1, rfl, rfl⟩
theorem pr_one {K : PySem.W.Frag} {φ : Phi} {n : Nat} {H : Hp} {a b : List Nat} {v : V} (r : VR K φ n H (.tup [.str a, .str b]) v) : ∃ p : Addr, v = .ref p ∧ SqT K H p [.str (sS a), .str (sS b)] ∧ okS a ∧ okS b := by
  cases r with
  | tup q t =>
    cases t with
    | cons r1 t =>
      cases t with
      | cons r2 t =>
        cases t
        cases r1 with
        | str _ oa =>
          cases r2 with
          | str _ ob => exact ⟨_, rfl, q, oa, ob⟩
theorem prs_at {K : PySem.W.Frag} {φ : Phi} {n : Nat} {H : Hp} : ∀ (ws : List PF.W) {vs : List V} {ps : List Pr}, VRs K φ n H ws vs → prsOf ws = some ps →
    ∃ ts : List PrA, vs = (ts.map fun t => V.ref t.2) ∧ ps = ts.map Prod.fst ∧ ∀ t, t ∈ ts → SqT K H t.2 [.str (sS t.1.1), .str (sS t.1.2)] ∧ okS t.1.1 ∧ okS t.1.2 := by
  intro ws
  induction ws with
  | nil =>
    intro vs ps r e
    cases r
    cases e
    exact ⟨[], rfl, rfl, fun _ h => by cases h⟩
  | cons w ws ih =>
    intro vs ps r e
    obtain ⟨a, b, qs, rfl, e1, rfl⟩ := prsOf_cons e
    cases r with
    | cons r1 t =>
      obtain ⟨p, rfl, q, oa, ob⟩ := pr_one r1
      obtain ⟨ts, rfl, rfl, h⟩ := ih t e1
      refine ⟨((a, b), p) :: ts, rfl, rfl, fun u hu => ?_⟩
      rcases List.mem_cons.mp hu with rfl | hu
      · exact ⟨q, oa, ob⟩
      · exact h u hu
theorem prs_vr {K : PySem.W.Frag} {φ : Phi} {n : Nat} {H : Hp} : ∀ ts : List PrA, (∀ t, t ∈ ts → SqT K H t.2 [.str (sS t.1.1), .str (sS t.1.2)] ∧ okS t.1.1 ∧ okS t.1.2) → VRs K φ n H (ts.map (prW ∘ Prod.fst)) (ts.map fun t => V.ref t.2)
  | [], _ => .nil
  | t :: ts, h => .cons (.tup (h t (List.mem_cons_self ..)).1 (.cons (.str _ (h t (List.mem_cons_self ..)).2.1) (.cons (.str _ (h t (List.mem_cons_self ..)).2.2) .nil))) (prs_vr ts fun u hu => h u (List.mem_cons_of_mem _ hu))
theorem ints_vrU {K : PySem.W.Frag} {φ : Phi} {n : Nat} {H : Hp} : ∀ is : List Int, VRs K φ n H (is.map PF.W.int) (is.map V.int)
  | [] => .nil
  | i :: is => .cons (.int i) (ints_vrU is)
section
variable {X : Cx} {cls : Cl} {W : WX}
/-- sorted(texts), however many -/
theorem cr_sortS : CallR X (.builtin "sorted") (fun xs H Q => ∃ (a : Addr) (ss : List PySem.Str), xs = [.ref a] ∧ SqL X.K H a (ss.map V.str) ∧ ∀ (ys : List PySem.Str) q, ys.Perm ss → sortedS ys = true → H q = none → Q (.ref q) (upd H q (.lst (ys.map V.str)))) := by
  intro pins s σ H xs us Q I r h
  obtain ⟨a, ss, rfl, hs, q⟩ := h
  obtain ⟨its, rv, hl, hz⟩ := I.list hs
  obtain rfl := Vals.ref1 r
  have hS := rv.strs
  refine sortedKAny strKind_oneLt hl.isList hS.keysOf (fun _ _ _ e => keyKind_strs (by rw [← e]; exact hS)) (by rw [hS.len_eq]; simpa using hz) fun st' p1 p2 => ?_
  obtain ⟨ys, g1, g2, g3⟩ := sorted_out_str hS p1 p2
  obtain ⟨ep, he'⟩ := PyProof.Rows.sortedAll_at s.heap its ((arrOf st').map (·.2))
  have hlen : (ys.map V.str).length ≤ sizeLine := by
    have := hS.len_eq
    rw [List.length_map, g2.length_eq]
    simp at hz
    omega
  exact ⟨.ref _, upd H (s.heap.objs.size + 1) (.lst (ys.map V.str)), I.laid (t' := s.toks) (fun _ _ => PyProof.Rows.sortedAll_old) (Nat.le_succ _) ⟨hlen, _, ep, vals_of_strs g1, he'⟩, rfl, q ys _ g2 g3 (I.hok.fresh (Nat.le_succ _))⟩
theorem c_sorted (hc : X.calm = true) : CallR X (.builtin "sorted") (rC X.K cls bSorted) := by
  rintro pins s σ H xs us Q I r ⟨φ, h, ws, E, C, rs, p⟩
  unfold bSorted at p
  split at p
  · cases rs with
    | cons r1 rs =>
      cases rs
      split at p
      · rename_i kvs ed
        split at p
        · rename_i ss es
          split at p
          · rename_i hl
            obtain ⟨a, ks, rfl, hk1, hk2⟩ := dctOf_at C r1 ed
            obtain ⟨e1, ok⟩ := keysS_at hk2 es
            refine call_sortedD hc pins s σ H _ us Q I r ⟨a, ks, ss.map sS, rfl, .inl hk1, e1, by rw [List.length_map]; exact hl, fun ys q hp hs hq => ?_⟩
            rw [sorted_is hp hs]
            exact post_lst C (strs_vr _ fun t ht => ok t ((sortS_perm ss).mem_iff.mp ht)) p q hq
          · exact p.elim
        · split at p
          · rename_i is es
            split at p
            · rename_i hl
              obtain ⟨a, ks, rfl, hk1, hk2⟩ := dctOf_at C r1 ed
              refine call_sortedDI hc pins s σ H _ us Q I r ⟨a, ks, is, rfl, .inl hk1, keysI_at hk2 es, hl, fun ys q hp hs hq => ?_⟩
              rw [sortI_of hp hs]
              exact post_lst C (ints_vrU _) p q hq
            · exact p.elim
          · exact p.elim
      · split at p
        · rename_i ss es
          cases e1 : lstOf _ h with
          | none => rw [e1] at es; cases es
          | some zs =>
            rw [e1] at es
            obtain ⟨a, vs, rfl, hs, hr⟩ := lstOf_at C r1 e1
            obtain ⟨e2, ok⟩ := strsOf_at hr es
            subst e2
            refine cr_sortS pins s σ H _ us Q I r ⟨a, ss.map sS, rfl, hs, fun ys q hp hss hq => ?_⟩
            rw [sorted_is hp hss]
            exact post_lst C (strs_vr _ fun t ht => ok t ((sortS_perm ss).mem_iff.mp ht)) p q hq
        · split at p
          · rename_i ps es
            cases e1 : lstOf _ h with
            | none => rw [e1] at es; cases es
            | some zs =>
              rw [e1] at es
              obtain ⟨a, vs, rfl, hs, hr⟩ := lstOf_at C r1 e1
              obtain ⟨ts, rfl, e2, ht⟩ := prs_at _ hr es
              subst e2
              refine cr_sortPr pins s σ H _ us Q I r ⟨a, ts, rfl, hs, fun t h => (ht t h).1, fun ts' q pm pw hq => ?_⟩
              rw [← sortP_of (pm.map Prod.fst) pw, List.map_map] at p
              exact post_lst C (prs_vr ts' fun t h => ht t (pm.mem_iff.mp h)) p q hq
          · exact p.elim
  · exact p.elim
theorem gc_sorted : GrC bSorted := fun ws h => by
  unfold bSorted
  split
  · split
    · split
      · split
        · exact newL_grows _ _
        · trivial
      · split
        · split
          · exact newL_grows _ _
          · trivial
        · trivial
    · split
      · exact newL_grows _ _
      · split
        · exact newL_grows _ _
        · trivial
  · trivial
/-! ### max(l, default=d) -/
theorem maxOf_max : ∀ (is : List Int) (i : Int), PySem.W.maxOf i is = is.foldl max i
  | [], _ => rfl
  | j :: is, i => by
    show PySem.W.maxOf (if PySem.W.DatumOrd.lt i j = true then j else i) is = is.foldl max (max i j)
    have e : (if PySem.W.DatumOrd.lt i j = true then j else i) = max i j := by
      show (if decide (i < j) = true then j else i) = max i j
      by_cases h : i < j
      · simp [h]; omega
      · simp [h]; omega
    rw [e]
    exact maxOf_max is (max i j)
theorem dp_ints {K : PySem.W.Frag} {H : Hp} : ∀ ns : List Int, DpAll K H (ns.map V.int) (ns.map PyData.int)
  | [] => .nil
  | i :: ns => .cons (.int i) (dp_ints ns)
theorem call_maxDef (hc : X.calm = true) (hu : X.A.units + 64 < cLine) : CallRK X (.builtin "max") [Str.ofString "default"] (fun xs zs H Q => ∃ (a : Addr) (ns : List Int) (d : Int), xs = [.ref a] ∧ zs = [.int d] ∧ SqL X.K H a (ns.map V.int) ∧ (ns = [] → Q (.int d) H) ∧ ∀ i is, ns = i :: is → Q (.int (maxI (i :: is))) H) := by
  intro pins s σ H xs zs us ws Q I r rz h
  obtain ⟨a, ns, d, rfl, rfl, hs, q0, q1⟩ := h
  obtain rfl := Vals.ref1 r
  obtain ⟨u, rfl, t, rfl⟩ := vals1 rz
  obtain ⟨its, rv, hl, _⟩ := I.list hs
  have H1 : PySem.W.HoldAll s.heap its.toArray.toList ns := by
    obtain ⟨as, h1⟩ := Dp.readsAll I _ _ its (dp_ints ns) rv
    exact ⟨as, h1⟩
  refine PySem.W.max_list_datum_default (α := Int) (I.ok.hd hc) hl.isList H1 (by show X.A.units + 1 + 0 < cLine; omega) (fun e h' tk hk => ⟨.int d, H, I.kept hk, ⟨t, rfl⟩, q0 e⟩) fun y ys i v h' tk e hi hv hk => ?_
  obtain ⟨bs, r⟩ := hv
  have r : Reads h' v (.int (PySem.W.maxOf y ys)) bs := r
  rw [maxOf_max] at r
  cases r with
  | int _ t => exact ⟨.int _, H, I.kept hk, ⟨t, rfl⟩, q1 y ys e⟩
theorem g_maxD : GrO oMaxD := fun w u h => by
  unfold oMaxD
  split
  · split <;> first | exact Nat.le_refl _ | trivial
  · trivial
theorem re_maxD {p pos kp : Pos} {e d : Expr} {da db : PF.D} (hc : X.calm = true) (hu : X.A.units + 64 < cLine) (hg : Gl X "max") (hm : X.mg "max" = none) (hv : bootBuiltins "max" = some (.builtin "max")) (ha : RE X cls W e da) (hb : RE X cls W d db)
    (hs : starEach [e] X.env = (false, eval e X.env) :: starEach [] X.env := by rfl)
    (he : backTo pos (starEach [e] X.env) = (false, eval e X.env) :: backTo pos (starEach [] X.env) := by rfl) (hpl : (backTo pos (starEach [e] X.env)).any (·.1) = false := by rfl) : RE X cls W (.Call (.Name "max" p) [e] [⟨some "default", d, kp⟩] pos) (dBin oMaxD da db) :=
  ⟨(pe_callBK (call_maxDef hc hu) hg hm hv (pa_cons ha.pe pa_nil hs) (pk_cons hb.pe pk_nil) (by decide) (by decide) he hpl).imp fun σ H Q t =>
    (t.bin ha.g hb.g).mono fun x H1 t2 => t2.mono fun y H2 q => by
      obtain ⟨φ, h, w1, w2, E, C, r1, r2, p⟩ := q
      unfold oMaxD at p
      split at p
      · cases r2
        split at p
        · rename_i i is e1
          obtain ⟨a, rfl, hs⟩ := ints_at C r1 e1
          exact ⟨a, _, _, rfl, rfl, hs, fun z => (by cases z), fun j js z => (by cases z; exact rO_ok C p (.int _))⟩
        · rename_i e1
          obtain ⟨a, rfl, hs⟩ := ints_at C r1 e1
          exact ⟨a, _, _, rfl, rfl, hs, fun _ => rO_ok C p (.int _), fun j js z => (by cases z)⟩
        · exact p.elim
      · exact p.elim, grow_bin g_maxD ha.g hb.g⟩
/-! ### a, b = x, y -/
theorem grow_par {i j : Nat} {as : As} (ga : Grow as) : GrowS (sPar i j as) := fun ρ h => growsS.onR (ga ρ h) fun ws h1 _ l => by
  split
  · split
    · exact l
    · trivial
  · trivial
theorem rs_par (i j : Nat) {x y : PySem.Str} {a b : Expr} {as : As} {px py pt pos : Pos} {kt k2 pt2} (hc : X.calm = true) (hN : X.N.Nodup) (hi : X.N[i]? = some x) (hj : X.N[j]? = some y) (hij : i ≠ j)
    (hx : X.env.scope.names.lookup x = some .local) (hy : X.env.scope.names.lookup y = some .local) (ha : RA X cls W [a, b] as)
    (hw : swappedStores [.Tuple [.Name x px, .Name y py] kt pt] (.Tuple [a, b] k2 pt2) X.env = pure (some [x, y]) := by rfl)
    (hs : swapsWithSole [.Tuple [.Name x px, .Name y py] kt pt] (.Tuple [a, b] k2 pt2) pos.line X.env = pure false := by rfl) :
    RS X cls W (.Assign [.Tuple [.Name x px, .Name y py] kt pt] (.Tuple [a, b] k2 pt2) pos) (sPar i j as) :=
  ⟨(ps_par hc hN hi hj hij hx hy ha.pa hw hs).imp fun D σ H t => t.ok fun φ h ρ x p => x.firstS (ha.g ρ h) p fun vs H1 φ1 ws h1 g1 x1 p1 => by
    have r : VRs X.K φ1 h1.length H1 ws vs := g1.r
    split at p1
    · cases r with
      | cons r0 rr =>
        cases rr with
        | cons r1 r2 =>
          cases r2
          split at p1
          · exact ⟨_, _, rfl, p1 φ1 _ H1 (Ext.refl _ _) (Keep.refl _) ⟨g1.C, (x1.S.set r0).set r1⟩⟩
          · exact p1.elim
    · exact p1.elim, grow_par ha.g⟩
/-! ### startswith -/
theorem starts_eq (a b : List Nat) : Txt.startswith (sS a) (sS b) = (decide (b.length ≤ a.length) && (a.take b.length == b)) := by
  unfold Txt.startswith
  rw [PySem.StrLaws.subAt_eq, sS_len, sS_len]
  simp [sS]
theorem m_starts : MtR X "str.startswith" (rM X.K cls mStarts) := by
  rintro pins s σ H x xs v us Q I rx rs ⟨φ, h, w, ws, E, C, r, t, p⟩
  unfold mStarts at p
  split at p
  · cases r with
    | str _ _ =>
      cases t with
      | cons t1 tt =>
        cases tt
        cases t1
        exact mt_startswith pins s σ H _ _ v us Q I rx rs ⟨_, _, rfl, rfl, by rw [starts_eq]; exact rO_ok C p (.bl _)⟩
  · exact p.elim
theorem gm_starts : GrM mStarts := fun w ws h => by
  unfold mStarts
  split <;> first | exact Nat.le_refl _ | trivial
/-! ### max(l), min(l) -/
theorem foldl_max_ge : ∀ (is : List Int) (i : Int), i ≤ is.foldl max i ∧ (∀ j, j ∈ is → j ≤ is.foldl max i) ∧ (is.foldl max i = i ∨ is.foldl max i ∈ is)
  | [], i => ⟨Int.le_refl _, fun _ h => (by cases h), .inl rfl⟩
  | k :: is, i => by
    obtain ⟨h1, h2, h3⟩ := foldl_max_ge is (max i k)
    rw [List.foldl_cons]
    refine ⟨by omega, fun j hj => ?_, ?_⟩
    · rcases List.mem_cons.mp hj with rfl | hj
      · omega
      · exact h2 j hj
    · rcases h3 with h3 | h3
      · by_cases e : i ≤ k
        · exact .inr (by rw [h3, Int.max_eq_right e]; exact List.mem_cons_self ..)
        · exact .inl (by rw [h3]; omega)
      · exact .inr (List.mem_cons_of_mem _ h3)
theorem foldl_min_le : ∀ (is : List Int) (i : Int), is.foldl min i ≤ i ∧ (∀ j, j ∈ is → is.foldl min i ≤ j) ∧ (is.foldl min i = i ∨ is.foldl min i ∈ is)
  | [], i => ⟨Int.le_refl _, fun _ h => (by cases h), .inl rfl⟩
  | k :: is, i => by
    obtain ⟨h1, h2, h3⟩ := foldl_min_le is (min i k)
    rw [List.foldl_cons]
    refine ⟨by omega, fun j hj => ?_, ?_⟩
    · rcases List.mem_cons.mp hj with rfl | hj
      · omega
      · exact h2 j hj
    · rcases h3 with h3 | h3
      · by_cases e : k ≤ i
        · exact .inr (by rw [h3, Int.min_eq_right e]; exact List.mem_cons_self ..)
        · exact .inl (by rw [h3]; omega)
      · exact .inr (List.mem_cons_of_mem _ h3)
theorem max_is {i m : Int} {is : List Int} (hm : m ∈ i :: is) (hb : ∀ a, a ∈ i :: is → a ≤ m) : m = maxI (i :: is) := by
  obtain ⟨h1, h2, h3⟩ := foldl_max_ge is i
  show m = is.foldl max i
  have a : is.foldl max i ≤ m := by
    rcases h3 with h3 | h3
    · rw [h3]; exact hb i (List.mem_cons_self ..)
    · exact hb _ (List.mem_cons_of_mem _ h3)
  have b : m ≤ is.foldl max i := by
    rcases List.mem_cons.mp hm with rfl | hm
    · exact h1
    · exact h2 m hm
  omega
theorem min_is {i m : Int} {is : List Int} (hm : m ∈ i :: is) (hb : ∀ a, a ∈ i :: is → m ≤ a) : m = minI (i :: is) := by
  obtain ⟨h1, h2, h3⟩ := foldl_min_le is i
  show m = is.foldl min i
  have a : m ≤ is.foldl min i := by
    rcases h3 with h3 | h3
    · rw [h3]; exact hb i (List.mem_cons_self ..)
    · exact hb _ (List.mem_cons_of_mem _ h3)
  have b : is.foldl min i ≤ m := by
    rcases List.mem_cons.mp hm with rfl | hm
    · exact h1
    · exact h2 m hm
  omega
theorem c_max (hc : X.calm = true) : CallR X (.builtin "max") (rC X.K cls bMax) := by
  rintro pins s σ H xs us Q I r ⟨φ, h, ws, E, C, rs, p⟩
  unfold bMax at p
  split at p
  · cases rs with
    | cons r1 rs =>
      cases rs
      split at p
      · rename_i i is e1
        obtain ⟨a, rfl, hs⟩ := ints_at C r1 e1
        refine cr_max hc pins s σ H _ us Q I r ⟨a, _, rfl, hs, by simp, fun m h1 h2 => ?_⟩
        rw [max_is h1 h2]
        exact rO_ok C p (.int _)
      · exact p.elim
  · exact p.elim
theorem c_min (hc : X.calm = true) : CallR X (.builtin "min") (rC X.K cls bMin) := by
  rintro pins s σ H xs us Q I r ⟨φ, h, ws, E, C, rs, p⟩
  unfold bMin at p
  split at p
  · cases rs with
    | cons r1 rs =>
      cases rs
      split at p
      · rename_i i is e1
        obtain ⟨a, rfl, hs⟩ := ints_at C r1 e1
        refine cr_min hc pins s σ H _ us Q I r ⟨a, _, rfl, hs, by simp, fun m h1 h2 => ?_⟩
        rw [min_is h1 h2]
        exact rO_ok C p (.int _)
      · exact p.elim
  · exact p.elim
theorem gc_max : GrC bMax := fun ws h => by
  unfold bMax
  split
  · split <;> first | exact Nat.le_refl _ | trivial
  · trivial
theorem gc_min : GrC bMin := fun ws h => by
  unfold bMin
  split
  · split <;> first | exact Nat.le_refl _ | trivial
  · trivial
/-! ### i & 1, i >> j -/
theorem o_bitand : OpR X (binaryOp .BitAnd) (rO X.K cls oBitAnd) := by
  rintro pins s σ H x y v u Q I rx ry ⟨φ, h, w1, w2, E, C, r1, r2, p⟩
  unfold oBitAnd at p
  split at p
  · split at p
    · rename_i e
      subst e
      cases r1; cases r2
      exact op_andM pins s σ H _ _ v u Q I rx ry ⟨_, 1, rfl, rfl, rO_ok C p (.int _)⟩
    · exact p.elim
  · exact p.elim
theorem g_bitand : GrO oBitAnd := fun w u h => by
  unfold oBitAnd
  split
  · split <;> first | exact Nat.le_refl _ | trivial
  · trivial
theorem o_shr : OpR X (binaryOp .RShift) (rO X.K cls oShr) := by
  rintro pins s σ H x y v u Q I rx ry ⟨φ, h, w1, w2, E, C, r1, r2, p⟩
  unfold oShr at p
  split at p
  · split at p
    · rename_i e
      cases r1; cases r2
      exact op_shr pins s σ H _ _ v u Q I rx ry ⟨_, _, rfl, rfl, e, rO_ok C p (.int _)⟩
    · exact p.elim
  · exact p.elim
theorem g_shr : GrO oShr := fun w u h => by
  unfold oShr
  split
  · split <;> first | exact Nat.le_refl _ | trivial
  · trivial
end
end PF
namespace PF
open PySem PySem.Spec PyProof.Rows L2
/-- the law's promise -/
def spLaw (K : PySem.W.Frag) : Sp := fun vs H Q _ => ∃ (a : Addr) (ns : List Int), vs = [.ref a] ∧ Only H ∧ SqL K H a (ns.map V.int) ∧ ns.length ≤ 63 ∧ ∀ H', Q (.bl true) H'
theorem ints_vr {K : PySem.W.Frag} {φ : Phi} {n : Nat} {H : Hp} : ∀ ns : List Int, VRs K φ n H (ns.map PF.W.int) (ns.map V.int)
  | [] => .nil
  | i :: ns => .cons (.int i) (ints_vr ns)
theorem law_imp {K : PySem.W.Frag} {cls : Cl} {f : Fn} (su : cls.su = none) (L : LawTrue f) : ∀ vs H Q E, spLaw K vs H Q E → SpI K cls f vs H Q E := by
  rintro vs H Q E ⟨a, ns, rfl, hO, hS, hl, q⟩
  obtain ⟨h, e⟩ := L ns hl
  refine ⟨⟨fun _ => 0, none, cls.f⟩, [], [.fl (ns.map PF.W.int)], ⟨fun i j hi => absurd hi (Nat.not_lt_zero _), su.symm, rfl, fun i c hc => by cases hc⟩, .cons (.fl ?_ (ints_vr ns)) .nil, ?_⟩
  · rcases hS with (hS | hS) | hS
    · rcases hO a with z | ⟨o, xs, z⟩
      · rw [z] at hS; cases hS
      · rw [z] at hS; cases hS
    · exact .inl hS
    · exact .inr hS
  · rw [e]
    intro φ' v H' _ _ _ r
    have r : VR K φ' h.length H' (.bl true) v := r
    cases r
    exact q H'
theorem spLaw_of {K : PySem.W.Frag} : ∀ (H : Hp) (a : Addr) (ns : List Int), ns.length ≤ 63 → Only H → SqL K H a (ns.map V.int) → spLaw K [.ref a] H (fun v _ => v = .bl true) fun _ _ _ => False :=
  fun H a ns hl hO hS => ⟨a, ns, rfl, hO, hS, hl, fun _ => rfl⟩
theorem cx_none {P : Program} {w : World} (H : Hp) (s : Shared) (e : Value) (s' : Shared) : L2.CX P w [] H s (fun _ _ _ => False) e s' → False := fun h => by
  obtain ⟨_, _, _, _, _, _, _, _, _, _, _, _, z⟩ := h
  exact z
/-- rec. of no depth -/
theorem fn_none {P : Program} {w : World} {K : PySem.W.Frag} {mg : PySem.Str → Option Value} {base : Heap} {cls : Cl} {x : PySem.Str} {st : Stmt} {ps : List PySem.Str} {f : Addr} {fd : FuncData} (R : RawFn K mg x st ps f fd) (k : Nat) : FnAt P w K mg base cls x k (fun _ _ => .stuck) :=
  ⟨⟨f, fd, ps, ⟨fun vs H Q E ⟨_, _, _, _, _, p⟩ => p.elim, fun A outer s H args us vs Q E hr e0 hb hv ⟨_, _, _, _, _, p⟩ => p.elim⟩, R.m, R.F.kp, R.b⟩, fun _ _ => trivial⟩
end PF
namespace PF
open PySem PyProof.Rows
/-! ### min(l, key=len), texts -/
section
variable {prog : Program} {w : World} {A : Around} {E : Value → Shared → Prop} {s : Shared}
theorem mn_list {h0 h : Heap} {l : Addr} {a : Array Value} (hk : ∀ b o, h0.get? b = some o → h.get? b = some o) (hl : h0.IsList l a) : h.IsList l a := by
  obtain ⟨o, ho, r⟩ := hl
  exact ⟨o, hk _ _ ho, r⟩
theorem mn_loop {h0 : Heap} {l I S : Addr} {vs : List Value} {R : Result → Shared → Prop} (kf : Nat → Int) (hh : A.handled = none) (hl : h0.IsList l vs.toArray) (hI : h0.get? I = none) (hS : h0.get? S = none) (hSI : S ≠ I)
    (tn : ∀ i v, vs[i]? = some v → ∃ x t, v = .str x t ∧ kf i = (x.length : Int) ∧ ¬ (x.length : Int) ≥ 2 ^ 63)
    (hR : ∀ i v h' tk', vs[i]? = some v → (∀ j, j < vs.length → kf i ≤ kf j ∧ (j < i → kf i < kf j)) → (∀ b o, h0.get? b = some o → h'.get? b = some o) → R (.ok (.ret v)) { s with heap := h', toks := tk' }) :
    ∀ (r j i : Nat) (h : Heap) (tk : Nat) (vb : Value) (tb : Tok) (c : Nat), vs.length - (j + 1) = r → j + 1 ≤ vs.length → (∀ b o, h0.get? b = some o → h.get? b = some o) →
      h.get? S = some (seqObj "list" #[vb, .int (kf i) tb] c) → h.IsListIter I l (j + 1) → vs[i]? = some vb → i ≤ j → (∀ j', j' ≤ j → kf i ≤ kf j' ∧ (j' < i → kf i < kf j')) →
      codeAny (model prog w) A (.builtin "min.loop" ⟨[.ref I, .builtin "len", .ref S], []⟩) R { s with heap := h, toks := tk } := by
  have hname : (toString "min" ++ toString ".loop" : String) = "min.loop" := by decide
  have hlI : l ≠ I := fun e => by obtain ⟨o, ho, _⟩ := hl; rw [e, hI] at ho; cases ho
  have hlS : l ≠ S := fun e => by obtain ⟨o, ho, _⟩ := hl; rw [e, hS] at ho; cases ho
  have W := Walks.list (prog := prog) (w := w) (A := A.in1) hh I l hlI vs.toArray
  have hsz : vs.toArray.size = vs.length := List.size_toArray ..
  have keepI : ∀ {h h' : Heap}, (∀ b o, h0.get? b = some o → h.get? b = some o) → (∀ b o, b ∉ [I] → h.get? b = some o → h'.get? b = some o) → ∀ b o, h0.get? b = some o → h'.get? b = some o := fun k1 k2 b o e => k2 b o (fun z => by rw [List.mem_singleton.mp z, hI] at e; cases e) (k1 b o e)
  have keepS : ∀ {h h' : Heap}, (∀ b o, h0.get? b = some o → h.get? b = some o) → (∀ b, b ≠ S → h'.get? b = h.get? b) → ∀ b o, h0.get? b = some o → h'.get? b = some o := fun k1 k2 b o e => by
    rw [k2 b (fun z => by rw [z, hS] at e; cases e)]
    exact k1 b o e
  intro r
  induction r with
  | zero =>
    intro j i h tk vb tb c hr hj hk nS hit hvb hij hbest
    have hin : j + 1 = vs.length := by omega
    refine codeAny_builtin PySem.F.entry_min_loop ?_
    rw [Around.under_plainId PySem.F.plain_min_loop _]
    show wpAny _ A.in1 (seqItems? (.ref S) >>= _) _ _ _
    refine wpAny_bind (wpAny_seqItems nS rfl ?_)
    show wpAny _ A.in1 (tryCatch (pyNext (.ref I)) _ >>= _) _ _ _
    refine wpAny_bind (wpAny_tryCatch (W.done _ _ _ ⟨by rw [hsz, ← hin]; exact hit, mn_list hk hl⟩ fun h' tk' hk' => ?_))
    have hS' := hk' S _ (by simpa using hSI) nS
    have s1 := Heap.SameBut.update h' S (Obj.mapSeq fun _ => (#[] : Array Value))
    show wpAny _ A.in1 (updateSeq S (fun _ => #[]) >>= _) _ _ _
    refine wpAny_bind ?_
    refine wpAny_updateSeq hS' rfl (wpAny_bind (wpAny_letGo (wpAny_pure ?_)))
    exact hR i vb _ _ hvb (fun j' hj' => hbest j' (by omega)) (keepS (keepI hk hk') fun b hb => s1.2 b hb)
  | succ r ih =>
    intro j i h tk vb tb c hr hj hk nS hit hvb hij hbest
    have hlt : j + 1 < vs.length := by omega
    refine codeAny_builtin PySem.F.entry_min_loop ?_
    rw [Around.under_plainId PySem.F.plain_min_loop _]
    show wpAny _ A.in1 (seqItems? (.ref S) >>= _) _ _ _
    refine wpAny_bind (wpAny_seqItems nS rfl ?_)
    show wpAny _ A.in1 (tryCatch (pyNext (.ref I)) _ >>= _) _ _ _
    refine wpAny_bind (wpAny_tryCatch (W.item (j + 1) _ _ _ (by rw [hsz]; exact hlt) ⟨hit, mn_list hk hl⟩ fun v h' tk' hP hst' hk' => ?_))
    have hv : vs[j + 1]? = some v := by simpa using hP
    obtain ⟨oI', hoI', hoc, hod⟩ := id hst'.1
    have nS1 := hk' S _ (by simpa using hSI) nS
    have hk1 := keepI hk hk'
    obtain ⟨x, t, rfl, ekf, fit⟩ := tn _ _ hv
    show wpAny _ A.in1 (tryCatch (holding [.str x t] (call (.builtin "len") [.str x t])) _ >>= _) _ _ _
    refine wpAny_bind (wpAny_tryCatch (wpAny_holding (len_str fit ?_)))
    rw [← ekf]
    generalize htk2 : tk' + 1 + 1 = tk2
    generalize ht2 : tk' + 1 = t2
    show wpAny _ A.in1 (tryCatch (holding [.str x t, .int (kf (j + 1)) t2] (richCompare .Lt (.int (kf (j + 1)) t2) (.int (kf i) tb) >>= _)) _ >>= _) _ _ _
    refine wpAny_bind (wpAny_tryCatch (wpAny_holding (wpAny_bind (CmpOf.ints_lt (prog := prog) (w := w) (A := A.in1) (P := fun i v => ∃ t, v = .int (kf i) t) kf (fun i v h => h) (j + 1) i _ _ _ _ _ ⟨t2, rfl⟩ ⟨tb, rfl⟩ ?_))))
    refine wpAny_bind (wpAny_holding (wpAny_truthy_bool ?_))
    refine wpAny_bind (wpAny_letGo (wpAny_pure ?_))
    by_cases hb' : kf (j + 1) < kf i
    · have s1 := Heap.SameBut.update h' S (Obj.mapSeq fun _ => #[.str x t, .int (kf (j + 1)) t2])
      obtain ⟨c2, hc2⟩ : ∃ c2, (h'.update S (Obj.mapSeq fun _ => #[.str x t, .int (kf (j + 1)) t2])).get? S = some (seqObj "list" #[.str x t, .int (kf (j + 1)) t2] c2) := ⟨_, get?_update_seq nS1 fun _ => #[.str x t, .int (kf (j + 1)) t2]⟩
      simp only [hb', decide_true, if_true]
      refine wpAny_bind ?_
      refine wpAny_updateSeq nS1 rfl (wpAny_bind (wpAny_letGo ?_))
      rw [hname]
      refine wpAny_pure ⟨plainId_quiet PySem.F.plain_min_loop _, ih (j + 1) (j + 1) _ _ (.str x t) t2 c2 (by omega) hlt (keepS hk1 fun b hb => s1.2 b hb) hc2 ⟨oI', (s1.2 I hSI.symm).trans hoI', hoc, hod⟩ hv (Nat.le_refl _) fun j' hj' => ?_⟩
      by_cases e : j' = j + 1
      · subst e
        exact ⟨by omega, fun _ => by omega⟩
      · have hb1 := hbest j' (by omega)
        have hb2 := hb1.1
        exact ⟨by omega, fun _ => by omega⟩
    · simp only [hb', decide_false, Bool.false_eq_true, if_false]
      refine wpAny_bind (wpAny_letGo ?_)
      rw [hname]
      refine wpAny_pure ⟨plainId_quiet PySem.F.plain_min_loop _, ih (j + 1) i _ _ vb tb c (by omega) hlt hk1 nS1 ⟨oI', hoI', hoc, hod⟩ hvb (by omega) fun j' hj' => ?_⟩
      by_cases e : j' = j + 1
      · subst e
        exact ⟨by omega, fun _ => by omega⟩
      · exact hbest j' (by omega)
theorem mn_raw {l : Addr} {vs : List Value} {Q : Value → Shared → Prop} (kf : Nat → Int) (hh : A.handled = none) (hl : s.heap.IsList l vs.toArray) (hne : 0 < vs.length)
    (tn : ∀ i v, vs[i]? = some v → ∃ x t, v = .str x t ∧ kf i = (x.length : Int) ∧ ¬ (x.length : Int) ≥ 2 ^ 63)
    (hQ : ∀ i v h' tk', vs[i]? = some v → (∀ j, j < vs.length → kf i ≤ kf j ∧ (j < i → kf i < kf j)) → (∀ b o, s.heap.get? b = some o → h'.get? b = some o) → Q v { s with heap := h', toks := tk' }) :
    wpAny (model prog w) A (call (.builtin "min") [.ref l] [(Str.ofString "key", .builtin "len")]) Q E s := by
  have hname : (toString "min" ++ toString ".loop" : String) = "min.loop" := by decide
  obtain ⟨ol, hol, _⟩ := id hl
  have hll : l < s.heap.objs.size := Heap.lt_size hol
  refine kmb_tree PySem.F.kind_min PySem.F.plain_min PySem.F.entry_min (kmb_min_key _ _) ?_
  show wpAny _ A.in1 (Builtin.Builtins.bindParams "min" ["key", "default"] 0 ⟨[], [(Str.ofString "key", .builtin "len")]⟩ >>= _) _ _ s
  refine wpAny_bind (wpAny_of_eq (show Builtin.Builtins.bindParams "min" ["key", "default"] 0 ⟨[], [(Str.ofString "key", .builtin "len")]⟩ = pure [some (.builtin "len"), none] from rfl) ?_)
  refine wpAny_bind (wpAny_pure ?_)
  refine wpAny_bind (wpAny_pyIter_list hl ?_)
  refine wpAny_bind (wpAny_newList ?_ (Nat.zero_le _))
  rw [hname]
  have hS : (s.heap.push { cls := .type "list_iterator", data := .fields #[.ref l, .int 0 0] }).objs.size = s.heap.objs.size + 1 := size_push' ..
  have hlI : l ≠ s.heap.objs.size := Nat.ne_of_lt hll
  have hSI : (s.heap.push { cls := .type "list_iterator", data := .fields #[.ref l, .int 0 0] }).objs.size ≠ s.heap.objs.size := by rw [hS]; exact Nat.ne_of_gt (Nat.lt_succ_self _)
  refine wpAny_pure ⟨plainId_quiet PySem.F.plain_min_loop _, ?_⟩
  have zI : s.heap.get? s.heap.objs.size = none := Heap.get?_none_of_le (Nat.le_refl _)
  have zS : s.heap.get? (s.heap.push { cls := .type "list_iterator", data := .fields #[.ref l, .int 0 0] }).objs.size = none := Heap.get?_none_of_le (by rw [hS]; exact Nat.le_succ _)
  have kH : ∀ b o, s.heap.get? b = some o → ((s.heap.push { cls := .type "list_iterator", data := .fields #[.ref l, .int 0 0] }).push (seqObj "list" #[] 0)).get? b = some o := fun b o e => Heap.get?_push_of_some _ (Heap.get?_push_of_some _ e)
  have gI : ((s.heap.push { cls := .type "list_iterator", data := .fields #[.ref l, .int 0 0] }).push (seqObj "list" #[] 0)).get? s.heap.objs.size = some { cls := .type "list_iterator", data := .fields #[.ref l, .int 0 0] } :=
    Heap.get?_push_of_some _ (Heap.get?_push_size _ rfl)
  have gS : ((s.heap.push { cls := .type "list_iterator", data := .fields #[.ref l, .int 0 0] }).push (seqObj "list" #[] 0)).get? (s.heap.push { cls := .type "list_iterator", data := .fields #[.ref l, .int 0 0] }).objs.size = some (seqObj "list" #[] 0) := Heap.get?_push_size _ rfl
  have W := Walks.list (prog := prog) (w := w) (A := A.in1) hh s.heap.objs.size l hlI vs.toArray
  have hsz : vs.toArray.size = vs.length := List.size_toArray ..
  refine codeAny_builtin PySem.F.entry_min_loop ?_
  rw [Around.under_plainId PySem.F.plain_min_loop _]
  show wpAny _ A.in1 (seqItems? (.ref _) >>= _) _ _ _
  refine wpAny_bind (wpAny_seqItems gS rfl ?_)
  show wpAny _ A.in1 (tryCatch (pyNext (.ref s.heap.objs.size)) _ >>= _) _ _ _
  refine wpAny_bind (wpAny_tryCatch (W.item 0 _ _ _ (by rw [hsz]; exact hne) ⟨⟨_, gI, rfl, rfl⟩, mn_list kH hl⟩ fun v h' tk' hP hst' hk' => ?_))
  have hv : vs[0]? = some v := by simpa using hP
  obtain ⟨oI', hoI', hoc, hod⟩ := id hst'.1
  have nS1 := hk' _ _ (by simpa using hSI) gS
  have k1 : ∀ b o, s.heap.get? b = some o → h'.get? b = some o := fun b o e => hk' b o (fun z => by rw [List.mem_singleton.mp z, zI] at e; cases e) (kH b o e)
  obtain ⟨x, t, rfl, ekf, fit⟩ := tn _ _ hv
  show wpAny _ A.in1 (tryCatch (holding [.str x t] (call (.builtin "len") [.str x t])) _ >>= _) _ _ _
  refine wpAny_bind (wpAny_tryCatch (wpAny_holding (len_str fit ?_)))
  rw [← ekf]
  generalize htk2 : tk' + 1 + 1 = tk2
  generalize ht2 : tk' + 1 = t2
  have s1 := Heap.SameBut.update h' (s.heap.push { cls := .type "list_iterator", data := .fields #[.ref l, .int 0 0] }).objs.size (Obj.mapSeq fun _ => #[.str x t, .int (kf 0) t2])
  obtain ⟨c2, hc2⟩ : ∃ c2, (h'.update (s.heap.push { cls := .type "list_iterator", data := .fields #[.ref l, .int 0 0] }).objs.size (Obj.mapSeq fun _ => #[.str x t, .int (kf 0) t2])).get? (s.heap.push { cls := .type "list_iterator", data := .fields #[.ref l, .int 0 0] }).objs.size = some (seqObj "list" #[.str x t, .int (kf 0) t2] c2) := ⟨_, get?_update_seq nS1 fun _ => #[.str x t, .int (kf 0) t2]⟩
  show wpAny _ A.in1 (updateSeq (s.heap.push { cls := .type "list_iterator", data := .fields #[.ref l, .int 0 0] }).objs.size (fun _ => #[.str x t, .int (kf 0) t2]) >>= _) _ _ _
  refine wpAny_bind ?_
  refine wpAny_updateSeq nS1 rfl ?_
  rw [hname]
  refine wpAny_pure ⟨plainId_quiet PySem.F.plain_min_loop _, mn_loop kf hh hl zI zS hSI tn hQ _ 0 0 _ _ (.str x t) t2 c2 rfl hne (fun b o e => ?_) hc2 ⟨oI', (s1.2 _ hSI.symm).trans hoI', hoc, hod⟩ hv (Nat.le_refl _) fun j' hj' => ?_⟩
  · rw [s1.2 b (fun z => by rw [z, zS] at e; cases e)]
    exact k1 b o e
  · obtain rfl : j' = 0 := by omega
    exact ⟨Int.le_refl _, fun z => absurd z (by omega)⟩
end
/-! ### the rule -/
open L2
theorem short_at : ∀ (ss : List (List Nat)) (m : List Nat), ∃ i, (m :: ss)[i]? = some (shortT m ss) ∧ ∀ (j : Nat) (x : List Nat), (m :: ss)[j]? = some x → (shortT m ss).length ≤ x.length ∧ (j < i → (shortT m ss).length < x.length)
  | [], m => ⟨0, rfl, fun j x e => by
    match j, e with
    | 0, e => cases e; exact ⟨Nat.le_refl _, fun z => absurd z (by omega)⟩⟩
  | s :: ss, m => by
    unfold shortT
    by_cases k : s.length < m.length
    · rw [if_pos k]
      obtain ⟨i, e1, e2⟩ := short_at ss s
      have h0 := (e2 0 s rfl).1
      refine ⟨i + 1, e1, fun j x e => ?_⟩
      match j, e with
      | 0, e => cases e; exact ⟨by omega, fun _ => by omega⟩
      | j + 1, e => have := e2 j x e; exact ⟨this.1, fun z => this.2 (by omega)⟩
    · rw [if_neg k]
      obtain ⟨i, e1, e2⟩ := short_at ss m
      have h0 := e2 0 m rfl
      match i, e1, e2, h0 with
      | 0, e1, e2, h0 =>
        refine ⟨0, e1, fun j x e => ?_⟩
        match j, e with
        | 0, e => cases e; exact ⟨h0.1, fun z => absurd z (by omega)⟩
        | 1, e => cases e; exact ⟨by omega, fun z => absurd z (by omega)⟩
        | j + 2, e => have := e2 (j + 1) x e; exact ⟨this.1, fun z => absurd z (by omega)⟩
      | i + 1, e1, e2, h0 =>
        have h1 := h0.2 (by omega)
        refine ⟨i + 2, e1, fun j x e => ?_⟩
        match j, e with
        | 0, e => cases e; exact ⟨h0.1, fun _ => h1⟩
        | 1, e => cases e; exact ⟨by omega, fun _ => by omega⟩
        | j + 2, e => have := e2 (j + 1) x e; exact ⟨this.1, fun z => this.2 (by omega)⟩
section
variable {X : Cx} {cls : Cl} {W : WX}
def rMinL (K : PySem.W.Frag) : List V → Hp → VK → Prop := fun xs H Q => ∃ (a : Addr) (s : List Nat) (ss : List (List Nat)), xs = [.ref a] ∧ SqL K H a (((s :: ss).map sS).map V.str) ∧ (∀ x, x ∈ s :: ss → x.length ≤ bigL) ∧ Q (.str (sS (shortT s ss))) H
theorem run_minL {pins : List (Addr × Obj)} {s : Shared} {σ : L2.St} {H : Hp} {xs : List V} {us : List Value} {Q : VK} (hc : X.calm = true) (I : Inv X pins σ H s) (r : Vals xs us) (h : rMinL X.K xs H Q) : wpAny (model X.prog X.w) X.A (call (.builtin "min") us [(Str.ofString "key", .builtin "len")]) (EP X pins σ Q) X.xe s := by
  obtain ⟨a, s0, ss, rfl, hs, hb, q⟩ := h
  obtain ⟨its, rv, hl, _⟩ := I.list hs
  rw [Vals.ref1 r]
  have en := rv.length
  rw [List.length_map, List.length_map] at en
  have at1 : ∀ (i : Nat) (v : Value), its[i]? = some v → ∃ x : List Nat, (s0 :: ss)[i]? = some x ∧ ∃ t, v = Value.str (sS x) t := fun i v e => by
    have hi : i < its.length := (List.getElem?_eq_some_iff.mp e).1
    have hi2 : i < (s0 :: ss).length := by rw [en]; exact hi
    obtain ⟨u, e1, e2⟩ := rv.get (i := i) (x := V.str (sS (s0 :: ss)[i])) (by rw [List.getElem?_map, List.getElem?_map, List.getElem?_eq_getElem hi2]; rfl)
    rw [e] at e1
    cases e1
    exact ⟨(s0 :: ss)[i], List.getElem?_eq_getElem hi2, e2⟩
  refine mn_raw (fun i => (((s0 :: ss)[i]?.getD []).length : Int)) (I.ok.hd hc) hl.isList (by rw [← en]; simp) (fun i v e => ?_) fun i v h' tk' e hm hk => ?_
  · obtain ⟨x, e1, t, e2⟩ := at1 i v e
    have hx := hb x (List.mem_of_getElem? e1)
    refine ⟨_, t, e2, by rw [e1, sS_len]; rfl, ?_⟩
    rw [sS_len]
    unfold bigL at hx
    omega
  · obtain ⟨x, e1, t, e2⟩ := at1 i v e
    obtain ⟨k, k1, k2⟩ := short_at ss s0
    have hik : i = k := by
      rcases Nat.lt_trichotomy i k with z | z | z
      · have a1 := (k2 i x e1).2 z
        have hkl : k < (s0 :: ss).length := (List.getElem?_eq_some_iff.mp k1).1
        have a2 := (hm k (by rw [← en]; exact hkl)).1
        simp only [e1, k1, Option.getD_some] at a2
        omega
      · exact z
      · have hkl : k < (s0 :: ss).length := (List.getElem?_eq_some_iff.mp k1).1
        have a2 := (hm k (by rw [← en]; exact hkl)).2 z
        simp only [e1, k1, Option.getD_some] at a2
        have a1 := (k2 i x e1).1
        omega
    rw [hik, k1] at e1
    cases e1
    exact ⟨.str _, H, I.kept hk, ⟨t, e2⟩, q⟩
theorem pe_minL {p p2 kp pos : Pos} {e : Expr} {t : TA} (hc : X.calm = true) (hg : Gl X "min") (hm : X.mg "min" = none) (hv : bootBuiltins "min" = some (.builtin "min")) (hg2 : Gl X "len") (hm2 : X.mg "len" = none) (hv2 : bootBuiltins "len" = some (.builtin "len")) (ha : PA X [e] t)
    (he : backTo pos (starEach [e] X.env) = (false, eval e X.env) :: backTo pos (starEach [] X.env) := by rfl) (hpl : (backTo pos (starEach [e] X.env)).any (·.1) = false := by rfl) :
    PE X (.Call (.Name "min" p) [e] [⟨some "key", .Name "len" p2, kp⟩] pos) (tCB (rMinL X.K) t) := by
  refine ⟨fun pins s σ H Q I h => ?_⟩
  refine wpAny_Call_Name_kw (ld_blt I hg hm hv ?_ (by decide) (by decide))
  refine PyProof.Rows.callWith_kw (thn (ha.run pos pins s σ H _ I h) fun us s1 ⟨vs, H1, I1, r1, q1⟩ => ?_) he hpl (by rfl) (by rfl)
  show wpAny _ _ (evalAll ((do let v ← eval (.Name "len" p2) X.env; standAt pos; pure v) :: [])) _ _ s1
  refine wpAny_evalAll_cons (wpAny_bind (ld_blt I1 hg2 hm2 hv2 (wpAny_bind (wpAny_standAt (wpAny_pure (wpAny_evalAll_nil ?_)))) (by decide) (by decide)))
  exact run_minL hc I1 r1 q1
theorem gc_minLen : GrC bMinLen := fun ws h => by
  unfold bMinLen
  split
  · split
    · split <;> first | exact Nat.le_refl _ | trivial
    · trivial
  · trivial
theorem short_mem : ∀ (ss : List (List Nat)) (s : List Nat), shortT s ss ∈ s :: ss := fun ss s => by
  obtain ⟨i, e, _⟩ := short_at ss s
  exact List.mem_of_getElem? e
theorem re_minLen {p p2 kp pos : Pos} {e : Expr} {as : As} (hc : X.calm = true) (hg : Gl X "min") (hm : X.mg "min" = none) (hv : bootBuiltins "min" = some (.builtin "min")) (hg2 : Gl X "len") (hm2 : X.mg "len" = none) (hv2 : bootBuiltins "len" = some (.builtin "len")) (ha : RA X cls W [e] as)
    (he : backTo pos (starEach [e] X.env) = (false, eval e X.env) :: backTo pos (starEach [] X.env) := by rfl) (hpl : (backTo pos (starEach [e] X.env)).any (·.1) = false := by rfl) :
    RE X cls W (.Call (.Name "min" p) [e] [⟨some "key", .Name "len" p2, kp⟩] pos) (dCall bMinLen as) :=
  ⟨(pe_minL hc hg hm hv hg2 hm2 hv2 ha.pa he hpl).imp fun σ H Q t =>
    (t.call ha.g).mono fun vs H1 ⟨φ, h, ws, E, C, rs, q⟩ => by
      unfold bMinLen at q
      split at q
      · cases rs with
        | cons r1 rs =>
          cases rs
          split at q
          · rename_i s ss es
            obtain ⟨zs, e1, es⟩ := Option.bind_eq_some_iff.mp es
            obtain ⟨a, vs', rfl, hs, hr⟩ := lstOf_at C r1 e1
            obtain ⟨e2, ok⟩ := strsOf_at hr es
            subst e2
            split at q
            · rename_i hb
              rw [List.all_eq_true] at hb
              exact ⟨a, s, ss, rfl, hs, fun x hx => of_decide_eq_true (hb x hx), rO_ok C q (.str _ (ok _ (short_mem ss s)))⟩
            · exact q.elim
          · exact q.elim
      · exact q.elim, grow_call gc_minLen ha.g⟩
end
end PF
namespace PF
/-! ### lists as values -/
theorem beq_dec {α : Type} [BEq α] [LawfulBEq α] [DecidableEq α] (a b : α) : (a == b) = decide (a = b) := by
  by_cases e : a = b <;> simp [e]
section
variable {h h1 : Hs} {ρ : Env} {ws us : List W} {w u : W}
@[simp] theorem lstOf_fl : lstOf (.fl ws) h = some ws := (rfl)
@[simp] theorem seqOf_fl : seqOf (.fl ws) h = some ws := (rfl)
@[simp] theorem seqOf_tup : seqOf (.tup ws) h = some ws := (rfl)
@[simp] theorem bLen_fl : bLen [.fl ws] h = .ok (.int ws.length) h := (rfl)
@[simp] theorem bLen_tup : bLen [.tup ws] h = .ok (.int ws.length) h := (rfl)
@[simp] theorem stays_fl : stays [(.fl ws, ws)] h = true := by simp [stays]
theorem lstOf_ref {i : Nat} (e : h[i]? = some (.lst ws)) : lstOf (.ref i) h = some ws := by simp [lstOf, e]
theorem stays_at {i : Nat} (e : h[i]? = some (.lst ws)) : stays [(.ref i, ws)] h = true := by simp [stays, lstOf, e]
theorem oIx_fl {k : Nat} (e : ws[k]? = some w) : oIx (.fl ws) (.int (k : Int)) h = .ok w h := by
  show okO (atW ws (k : Int)) h = _
  rw [atW_nat e]
  rfl
theorem oIx_tup {k : Nat} (e : ws[k]? = some w) : oIx (.tup ws) (.int (k : Int)) h = .ok w h := by
  show okO (atW ws (k : Int)) h = _
  rw [atW_nat e]
  rfl
@[simp] theorem oIx_t0 : oIx (.tup (w :: ws)) (.int 0) h = .ok w h := oIx_tup (k := 0) rfl
@[simp] theorem oIx_t1 {a : W} : oIx (.tup (a :: w :: ws)) (.int 1) h = .ok w h := oIx_tup (k := 1) rfl
@[simp] theorem oIx_t2 {a b : W} : oIx (.tup (a :: b :: w :: ws)) (.int 2) h = .ok w h := oIx_tup (k := 2) rfl
@[simp] theorem oIx_t3 {a b c : W} : oIx (.tup (a :: b :: c :: w :: ws)) (.int 3) h = .ok w h := oIx_tup (k := 3) rfl
@[simp] theorem oIx_f0 : oIx (.fl (w :: ws)) (.int 0) h = .ok w h := oIx_fl (k := 0) rfl
@[simp] theorem oIx_f1 {a : W} : oIx (.fl (a :: w :: ws)) (.int 1) h = .ok w h := oIx_fl (k := 1) rfl
/-- the last of a list -/
theorem atW_last {α : Type} {xs : List α} {x : α} : atW (xs ++ [x]) (-1) = some x := by
  unfold atW ixW
  rw [if_neg (by omega), if_pos (by simp; omega)]
  have e : (-1 + ((xs ++ [x]).length : Int)).toNat = xs.length := by simp; omega
  rw [e]
  simp
def anyIt (w : W) (h1 : Hs) : Res It := match w with
  | .tup ws => .ok (ws, []) h1
  | .str s => .ok (s.map fun c => .str [c], []) h1
  | .fl ws => .ok (ws, [(.fl ws, ws)]) h1
  | .ref i => match h1[i]? with
    | some (.lst ws) => .ok (ws, [(.ref i, ws)]) h1
    | _ => .stuck
  | _ => .stuck
theorem iAny_b {d : D} : iAny d ρ h = (d ρ h).bind anyIt := (rfl)
@[simp] theorem anyIt_tup : anyIt (.tup ws) h = .ok (ws, []) h := (rfl)
@[simp] theorem anyIt_fl : anyIt (.fl ws) h = .ok (ws, [(.fl ws, ws)]) h := (rfl)
@[simp] theorem anyIt_str (s : List Nat) : anyIt (.str s) h = .ok (s.map fun c => .str [c], []) h := (rfl)
theorem iAny_fl {d : D} (e : d ρ h = .ok (.fl ws) h1) : iAny d ρ h = .ok (ws, [(.fl ws, ws)]) h1 := by
  simp [iAny, e]
theorem iAny_tup {d : D} (e : d ρ h = .ok (.tup ws) h1) : iAny d ρ h = .ok (ws, []) h1 := by
  simp [iAny, e]
theorem iAny_str {d : D} {s : List Nat} (e : d ρ h = .ok (.str s) h1) : iAny d ρ h = .ok (s.map fun c => .str [c], []) h1 := by
  simp [iAny, e]
theorem iAny_at {d : D} {i : Nat} (e : d ρ h = .ok (.ref i) h1) (ei : h1[i]? = some (.lst ws)) : iAny d ρ h = .ok (ws, [(.ref i, ws)]) h1 := by
  simp [iAny, e, ei]
theorem iEnum_fl {d : D} (e : d ρ h = .ok (.fl ws) h1) : iEnum d ρ h = .ok (enumW 0 ws, [(.fl ws, ws)]) h1 := by
  simp [iEnum, e]
theorem iRev_fl {d : D} (e : d ρ h = .ok (.fl ws) h1) : iRev d ρ h = .ok (ws.reverse, [(.fl ws, ws)]) h1 := by
  simp [iRev, e]
theorem iRng2_e {d e : D} {i j : Int} (e1 : d ρ h = .ok (.int i) h) (e2 : e ρ h = .ok (.int j) h) (hi : -(2 ^ 60) ≤ i ∧ i < 2 ^ 60) (hj : -(2 ^ 60) ≤ j ∧ j < 2 ^ 60) : iRng2 d e ρ h = .ok (rngW i (j - i).toNat, []) h := by
  unfold iRng2
  rw [e1, Res.bind_ok, e2, Res.bind_ok]
  have h1 : rOK i := ⟨by omega, by omega⟩
  have h2 : rOK j := ⟨by omega, by omega⟩
  simp [h1, h2]
theorem iRng1_i {d : D} {j : Int} (e1 : d ρ h = .ok (.int j) h1) (hj : -(2 ^ 60) ≤ j ∧ j < 2 ^ 60) : iRng1 d ρ h = .ok (rngW 0 j.toNat, []) h1 := by
  unfold iRng1
  rw [e1, Res.bind_ok]
  have h2 : rOK j := ⟨by omega, by omega⟩
  simp [h2]
/-! slices -/
def asP (w : W) (h : Hs) : Res (Option Int) := match w with
  | .int i => .ok (some i) h
  | _ => .stuck
@[simp] theorem asP_int (i : Int) (h : Hs) : asP (.int i) h = .ok (some i) h := (rfl)
theorem pAt_b {d : D} : pAt d ρ h = (d ρ h).bind asP := by
  unfold pAt
  cases d ρ h with
  | ok w h1 => cases w <;> exact Eq.refl _
  | exc c p h1 => exact Eq.refl _
  | stuck => exact Eq.refl _
theorem oSl_fl {lo hi : Option Int} : oSl (.fl ws) lo hi h = newL (cutW ws lo hi) h := by exact Eq.refl _
theorem oSl_tup {lo hi : Option Int} : oSl (.tup ws) lo hi h = .ok (.tup (cutW ws lo hi)) h := by exact Eq.refl _
theorem oSl_str {s : List Nat} {lo hi : Option Int} (hb : s.length ≤ bigL) : oSl (.str s) lo hi h = .ok (.str (cutW s lo hi)) h := if_pos hb
theorem cut_lo {α : Type} (ws : List α) (n : Nat) : cutW ws (some (n : Int)) none = ws.drop n := by
  unfold cutW sIxW
  have e1 : ¬ ((n : Int) < 0) := by omega
  simp only [if_neg e1, Int.toNat_natCast]
  rcases Nat.le_total n ws.length with e | e
  · rw [Nat.min_eq_left e, List.take_of_length_le (by rw [List.length_drop]; omega)]
  · rw [Nat.min_eq_right e, List.drop_length, List.drop_of_length_le e, List.take_nil]
theorem cut_hi {α : Type} (ws : List α) (n : Nat) : cutW ws none (some (n : Int)) = ws.take n := by
  unfold cutW sIxW
  have e1 : ¬ ((n : Int) < 0) := by omega
  simp only [if_neg e1, Int.toNat_natCast, Nat.sub_zero, List.drop_zero]
  rcases Nat.le_total n ws.length with e | e
  · rw [Nat.min_eq_left e]
  · rw [Nat.min_eq_right e, List.take_length, List.take_of_length_le e]
theorem cut_lohi {α : Type} (ws : List α) (m n : Nat) : cutW ws (some (m : Int)) (some (n : Int)) = (ws.take n).drop m := by
  unfold cutW sIxW
  have e1 : ¬ ((n : Int) < 0) := by omega
  have e2 : ¬ ((m : Int) < 0) := by omega
  simp only [if_neg e1, if_neg e2, Int.toNat_natCast, List.drop_take]
  rcases Nat.le_total m ws.length with e | e
  · rw [Nat.min_eq_left e]
    rcases Nat.le_total n ws.length with f | f
    · rw [Nat.min_eq_left f]
    · rw [Nat.min_eq_right f, List.take_of_length_le (i := n - m) (by rw [List.length_drop]; omega), List.take_of_length_le (by rw [List.length_drop]; omega)]
  · rw [Nat.min_eq_right e, List.drop_length, List.take_nil, List.drop_of_length_le e, List.take_nil]
/-! a list that grows, the last of the store -/
@[simp] theorem set_end (h : Hs) (c d : Cell) : (h ++ [c]).set h.length d = h ++ [d] := by
  rw [List.set_append_right _ _ (Nat.le_refl _), Nat.sub_self]
  rfl
@[simp] theorem kd_end (h : Hs) (ws : List W) : kdOf (.ref h.length) (h ++ [.lst ws]) = some .lst := by simp [kdOf]
theorem kd_at {i : Nat} (e : h[i]? = some (.lst ws)) : kdOf (.ref i) h = some .lst := by simp [kdOf, e]
theorem mApp_end (hb : ws.length < bigL) : mAppend (.ref h.length) [w] (h ++ [.lst ws]) = .ok .non (h ++ [.lst (ws ++ [w])]) := by
  simp [mAppend, hb]
theorem mApp_at {i : Nat} (e : h[i]? = some (.lst ws)) (hb : ws.length < bigL) : mAppend (.ref i) [w] h = .ok .non (h.set i (.lst (ws ++ [w]))) := by
  simp [mAppend, e, hb]
theorem dMeth_e {k : Kd} {m : W → List W → Hs → Res W} {a : D} {as : As} : dMeth k m a as ρ h = (a ρ h).bind fun x h1 => if kdOf x h1 = some k then (as ρ h1).bind fun xs h2 => m x xs h2 else .stuck := by exact Eq.refl _
@[simp] theorem bMax2_i (i j : Int) : bMax2 [.int i, .int j] h = .ok (.int (max i j)) h := by
  show Res.ok (W.int (if j > i then j else i)) h = _
  congr 2
  split <;> omega
@[simp] theorem bMin2_i (i j : Int) : bMin2 [.int i, .int j] h = .ok (.int (min i j)) h := by
  show Res.ok (W.int (if j < i then j else i)) h = _
  congr 2
  split <;> omega
@[simp] theorem newL_e (ws : List W) : newL ws h = .ok (.ref h.length) (h ++ [.lst ws]) := by exact Eq.refl _
@[simp] theorem sSub_e {d o i : D} {st : W → W → W → Hs → Option Hs} : sSub d o i st ρ h = onR (d ρ h) ρ fun v h1 => onR (o ρ h1) ρ fun x h2 => onR (i ρ h2) ρ fun y h3 => (match st x y v h3 with
  | some h4 => .nx ρ h4
  | none => .stuck) := by exact Eq.refl _
theorem stL_at {i k : Nat} {y : W} (e : h[i]? = some (.lst ws)) (hk : k < ws.length) : stL (.ref i) (.int (k : Int)) y h = some (h.set i (.lst (ws.set k y))) := by
  have : ixW ws.length (k : Int) = some k := by unfold ixW; rw [if_pos (by omega), if_pos (by omega)]; simp
  simp [stL, e, this]
theorem stL_0 {i : Nat} {a y : W} (e : h[i]? = some (.lst (a :: ws))) : stL (.ref i) (.int 0) y h = some (h.set i (.lst (y :: ws))) := by
  simp [stL, e, ixW]
theorem mapO_fz {h' : Hs} {n d : Nat} : ∀ {ws : List W}, W.pures ws = true → mapO (fzW h' n d) ws = some ws
  | [], _ => rfl
  | w :: ws, q => by
    rw [pures_cons, Bool.and_eq_true] at q
    rw [mapO, fz_pure q.1, mapO_fz q.2]
    rfl
theorem fz_ref {h' : Hs} {n d i : Nat} {ws : List W} (hi : n ≤ i) (e : h'[i]? = some (.lst ws)) (hp : W.pures ws = true) : fzW h' n (d + 1) (.ref i) = some (.fl ws) := by
  have hn : ¬ i < n := by omega
  simp [fzW, hn, e, mapO_fz hp]
theorem gc_tup2T {h h' : Hs} {i j : Nat} {ws us : List W} (t : tame h h' = true) (hi : h.length ≤ i) (hj : h.length ≤ j) (e1 : h'[i]? = some (.lst ws)) (e2 : h'[j]? = some (.lst us)) (p1 : W.pures ws = true) (p2 : W.pures us = true) :
    gc h (.ok (.tup [.ref i, .ref j]) h') = .ok (.tup [.fl ws, .fl us]) (h'.take h.length) := by
  unfold gc
  dsimp only
  rw [if_pos t]
  have : fzW h' h.length 60 (.tup [.ref i, .ref j]) = some (.tup [.fl ws, .fl us]) := by
    show fzW h' h.length (58 + 1 + 1) (.tup [.ref i, .ref j]) = _
    unfold fzW
    simp [fz_ref hi e1 p1, fz_ref hj e2 p2]
  rw [this]
/-! data -/
theorem intsOf_map (is : List Int) : intsOf (is.map W.int) = some is := by
  induction is with
  | nil => rfl
  | cons i is ih => simp [intsOf, ih]
theorem blsOf_map (is : List Bool) : blsOf (is.map W.bl) = some is := by
  induction is with
  | nil => rfl
  | cons i is ih => simp [blsOf, ih]
theorem strsOf_map (is : List (List Nat)) : strsOf (is.map W.str) = some is := by
  induction is with
  | nil => rfl
  | cons i is ih => simp [strsOf, ih]
theorem bSum_fl (is : List Int) : bSum [.fl (is.map W.int)] h = .ok (.int is.sum) h := by simp [bSum, intsOf_map]
theorem bAll_fl (is : List Bool) : bAll [.fl (is.map W.bl)] h = .ok (.bl (is.all id)) h := by simp [bAll, blsOf_map]
theorem bAny_fl (is : List Bool) : bAny [.fl (is.map W.bl)] h = .ok (.bl (is.any id)) h := by simp [bAny, blsOf_map]
@[simp] theorem maxD_nil {d : Int} : oMaxD (.fl []) (.int d) h = .ok (.int d) h := (rfl)
theorem maxD_cons {d i : Int} (is : List Int) : oMaxD (.fl (.int i :: is.map W.int)) (.int d) h = .ok (.int (maxI (i :: is))) h := by
  have := intsOf_map (i :: is)
  simp only [List.map_cons] at this
  simp [oMaxD, this]
theorem bMax_fl (i : Int) (is : List Int) : bMax [.fl ((i :: is).map W.int)] h = .ok (.int (maxI (i :: is))) h := by
  unfold bMax
  dsimp only
  rw [lstOf_fl, Option.bind_some, intsOf_map]
theorem bMin_fl (i : Int) (is : List Int) : bMin [.fl ((i :: is).map W.int)] h = .ok (.int (minI (i :: is))) h := by
  unfold bMin
  dsimp only
  rw [lstOf_fl, Option.bind_some, intsOf_map]
theorem bSorted_fl (ss : List (List Nat)) (hl : ss.length < 64) : bSorted [.fl (ss.map W.str)] h = newL ((sortS ss).map W.str) h := by
  simp [bSorted, dctOf, strsOf_map, hl]
theorem bList_fl : bList [.fl ws] h = newL ws h := rfl
theorem bTuple_fl : bTuple [.fl ws] h = .ok (.tup ws) h := rfl
theorem bTuple_at {i : Nat} (ei : h[i]? = some (.lst ws)) : bTuple [.ref i] h = .ok (.tup ws) h := by simp [bTuple, lstOf, ei]
/-! values without truths, to some depth -/
def W.pl : Nat → W → Bool
  | _, .non => true
  | _, .int _ => true
  | _, .str _ => true
  | n + 1, .tup ws => ws.all (W.pl n)
  | n + 1, .fl ws => ws.all (W.pl n)
  | _, _ => false
@[simp] theorem pl_non (n : Nat) : W.pl n .non = true := by cases n <;> rfl
@[simp] theorem pl_int (n : Nat) (i : Int) : W.pl n (.int i) = true := by cases n <;> rfl
@[simp] theorem pl_str (n : Nat) (i : List Nat) : W.pl n (.str i) = true := by cases n <;> rfl
@[simp] theorem pl_tup (n : Nat) (ws : List W) : W.pl (n + 1) (.tup ws) = ws.all (W.pl n) := (rfl)
@[simp] theorem pl_fl (n : Nat) (ws : List W) : W.pl (n + 1) (.fl ws) = ws.all (W.pl n) := (rfl)
theorem pl_le : ∀ (n m : Nat) (w : W), n ≤ m → W.pl n w = true → W.pl m w = true
  | 0, m, w, _, p => by cases w <;> cases m <;> first | rfl | simp [W.pl] at p
  | n + 1, m + 1, w, l, p => by
    cases w with
    | tup ws => rw [pl_tup, List.all_eq_true] at p ⊢; exact fun x hx => pl_le n m x (by omega) (p x hx)
    | fl ws => rw [pl_fl, List.all_eq_true] at p ⊢; exact fun x hx => pl_le n m x (by omega) (p x hx)
    | _ => first | rfl | simp [W.pl] at p
  | n + 1, 0, w, l, p => by omega
theorem da_some : ∀ (n : Nat) (w : W), W.pl n w = true → ∃ d, daOf h n w = some d
  | 0, w, p => by cases w <;> first | exact ⟨_, rfl⟩ | simp [W.pl] at p
  | n + 1, w, p => by
    have all : ∀ ws : List W, ws.all (W.pl n) = true → ∃ ds, mapO (daOf h n) ws = some ds := by
      intro ws
      induction ws with
      | nil => intro _; exact ⟨[], rfl⟩
      | cons w ws ih =>
        intro q
        rw [List.all_cons, Bool.and_eq_true] at q
        obtain ⟨ds, e2⟩ := ih q.2
        obtain ⟨d, e1⟩ := da_some n w q.1
        exact ⟨d :: ds, by rw [mapO, e1, e2]; rfl⟩
    cases w with
    | tup ws => obtain ⟨ds, e⟩ := all ws p; exact ⟨.tup ds, by rw [daOf, e]; rfl⟩
    | fl ws => obtain ⟨ds, e⟩ := all ws p; exact ⟨.lst ds, by rw [daOf, e]; rfl⟩
    | _ => first | exact ⟨_, rfl⟩ | simp [W.pl] at p
theorem da_eq : ∀ (n : Nat) (w u : W) (d e : Da), W.pl n w = true → W.pl n u = true → daOf h n w = some d → daOf h n u = some e → Da.eqB d e = decide (w = u)
  | 0, w, u, d, e, p, q, hd, he => by
    cases w <;> first
      | (simp [W.pl] at p; done)
      | (cases u <;> first
        | (simp [W.pl] at q; done)
        | (cases hd; cases he; simp [Da.eqB]; done)
        | (cases hd; cases he; rw [Da.eqB]; simp only [W.str.injEq, W.int.injEq]; exact beq_dec ..))
  | n + 1, w, u, d, e, p, q, hd, he => by
    have all : ∀ (ws us : List W) (ds es : List Da), ws.all (W.pl n) = true → us.all (W.pl n) = true → mapO (daOf h n) ws = some ds → mapO (daOf h n) us = some es → Da.eqL ds es = decide (ws = us) := by
      intro ws
      induction ws with
      | nil =>
        intro us ds es _ _ e1 e2
        cases e1
        cases us with
        | nil => cases e2; rfl
        | cons u us =>
          rw [mapO] at e2
          obtain ⟨b, e1, e2⟩ := Option.bind_eq_some_iff.mp e2
          obtain ⟨bs, e3, e2⟩ := Option.bind_eq_some_iff.mp e2
          cases e2
          simp [Da.eqL]
      | cons w ws ih =>
        intro us ds es hw hu e1 e2
        rw [mapO] at e1
        obtain ⟨b, e3, e1⟩ := Option.bind_eq_some_iff.mp e1
        obtain ⟨bs, e4, e1⟩ := Option.bind_eq_some_iff.mp e1
        cases e1
        rw [List.all_cons, Bool.and_eq_true] at hw
        cases us with
        | nil => cases e2; simp [Da.eqL]
        | cons u us =>
          rw [mapO] at e2
          obtain ⟨c, e5, e2⟩ := Option.bind_eq_some_iff.mp e2
          obtain ⟨cs, e6, e2⟩ := Option.bind_eq_some_iff.mp e2
          cases e2
          rw [List.all_cons, Bool.and_eq_true] at hu
          rw [Da.eqL, da_eq n w u b c hw.1 hu.1 e3 e5, ih us bs cs hw.2 hu.2 e4 e6]
          by_cases a : w = u <;> by_cases b : ws = us <;> simp [a, b]
    cases w with
    | tup ws =>
      rw [daOf] at hd
      obtain ⟨ds, h1, rfl⟩ := Option.map_eq_some_iff.mp hd
      cases u with
      | tup us =>
        rw [daOf] at he
        obtain ⟨es, h2, rfl⟩ := Option.map_eq_some_iff.mp he
        rw [Da.eqB, all ws us ds es p q h1 h2]
        simp
      | fl us =>
        rw [daOf] at he
        obtain ⟨es, h2, rfl⟩ := Option.map_eq_some_iff.mp he
        simp [Da.eqB]
      | _ => first | (cases he; simp [Da.eqB]; done) | (simp [W.pl] at q; done)
    | fl ws =>
      rw [daOf] at hd
      obtain ⟨ds, h1, rfl⟩ := Option.map_eq_some_iff.mp hd
      cases u with
      | tup us =>
        rw [daOf] at he
        obtain ⟨es, h2, rfl⟩ := Option.map_eq_some_iff.mp he
        simp [Da.eqB]
      | fl us =>
        rw [daOf] at he
        obtain ⟨es, h2, rfl⟩ := Option.map_eq_some_iff.mp he
        rw [Da.eqB, all ws us ds es p q h1 h2]
        simp
      | _ => first | (cases he; simp [Da.eqB]; done) | (simp [W.pl] at q; done)
    | _ => first
      | (simp [W.pl] at p; done)
      | (cases hd
         cases u with
         | tup us =>
           rw [daOf] at he
           obtain ⟨es, h2, rfl⟩ := Option.map_eq_some_iff.mp he
           simp [Da.eqB]
         | fl us =>
           rw [daOf] at he
           obtain ⟨es, h2, rfl⟩ := Option.map_eq_some_iff.mp he
           simp [Da.eqB]
         | _ => first | (simp [W.pl] at q; done) | (cases he; simp [Da.eqB]; done) | (cases he; rw [Da.eqB]; simp only [W.str.injEq, W.int.injEq]; exact beq_dec ..))
theorem da_pl (n : Nat) (w u : W) (p : W.pl n w = true) (q : W.pl n u = true) : ∃ d e, daOf h n w = some d ∧ daOf h n u = some e ∧ Da.eqB d e = decide (w = u) := by
  obtain ⟨d, e1⟩ := da_some (h := h) n w p
  obtain ⟨e, e2⟩ := da_some (h := h) n u q
  exact ⟨d, e, e1, e2, da_eq n w u d e p q e1 e2⟩
theorem eqW_pl {n : Nat} (hn : n ≤ deepest) (p : W.pl n w = true) (q : W.pl n u = true) : eqW w u h = some (decide (w = u)) := by
  obtain ⟨d, e, e1, e2, e3⟩ := da_pl (h := h) deepest w u (pl_le n _ w hn p) (pl_le n _ u hn q)
  simp [eqW, e1, e2, e3]
theorem oEq_pl {n : Nat} (hn : n ≤ deepest) (p : W.pl n w = true) (q : W.pl n u = true) : oEq w u h = .ok (.bl (decide (w = u))) h := by
  simp [oEq, eqW_pl hn p q]
theorem oNe_pl {n : Nat} (hn : n ≤ deepest) (p : W.pl n w = true) (q : W.pl n u = true) : oNe w u h = .ok (.bl (!decide (w = u))) h := by
  simp [oNe, eqW_pl hn p q]
@[simp] theorem oEq_s (a b : List Nat) : oEq (.str a) (.str b) h = .ok (.bl (decide (a = b))) h := by
  rw [oEq_pl (n := 0) (by decide) rfl rfl]; simp
@[simp] theorem oNe_s (a b : List Nat) : oNe (.str a) (.str b) h = .ok (.bl (!decide (a = b))) h := by
  rw [oNe_pl (n := 0) (by decide) rfl rfl]; simp
@[simp] theorem oEq_b (a b : Bool) : oEq (.bl a) (.bl b) h = .ok (.bl (a == b)) h := by simp [oEq, eqW, Da.eqB]
@[simp] theorem oNe_b (a b : Bool) : oNe (.bl a) (.bl b) h = .ok (.bl (!(a == b))) h := by simp [oNe, eqW, Da.eqB]
/-- a live list compares as its content -/
theorem daOf_at {i n : Nat} (ei : h[i]? = some (.lst ws)) : daOf h (n + 1) (.ref i) = daOf h (n + 1) (.fl ws) := by
  simp [daOf, ei]
theorem eqW_atL {i : Nat} (ei : h[i]? = some (.lst ws)) : eqW (.ref i) u h = eqW (.fl ws) u h := by
  unfold eqW
  rw [show deepest = 59 + 1 from rfl, daOf_at ei]
theorem eqW_atR {i : Nat} (ei : h[i]? = some (.lst ws)) : eqW w (.ref i) h = eqW w (.fl ws) h := by
  unfold eqW
  rw [show deepest = 59 + 1 from rfl, daOf_at ei]
/-! membership -/
theorem inF_str' (n : List Nat) : ∀ ss : List (List Nat), inF (.str n) (ss.map W.str) = some (decide (n ∈ ss))
  | [] => by simp [inF]
  | s :: ss => by
    rw [List.map_cons, inF, inF_str' n ss, eqF]
    simp only [List.mem_cons]
    by_cases e : s = n
    · subst e; simp
    · have e' : ¬ n = s := fun z => e z.symm
      simp [e, e']
theorem oIn_strs (n : List Nat) (ss : List (List Nat)) : oIn (.str n) (.fl (ss.map W.str)) h = .ok (.bl (decide (n ∈ ss))) h := by
  have e : inA (.str n) (.fl (ss.map W.str)) h = some (decide (n ∈ ss)) := by simp [inA, dctOf, flatF, inF_str']
  simp [oIn, e]
theorem oNin_strs (n : List Nat) (ss : List (List Nat)) : oNin (.str n) (.fl (ss.map W.str)) h = .ok (.bl (!decide (n ∈ ss))) h := by
  have e : inA (.str n) (.fl (ss.map W.str)) h = some (decide (n ∈ ss)) := by simp [inA, dctOf, flatF, inF_str']
  simp [oNin, e]
theorem oIn_strsAt {i : Nat} (n : List Nat) (ss : List (List Nat)) (ei : h[i]? = some (.lst (ss.map W.str))) : oIn (.str n) (.ref i) h = .ok (.bl (decide (n ∈ ss))) h := by
  have e : inA (.str n) (.ref i) h = some (decide (n ∈ ss)) := by simp [inA, dctOf, ei, flatF, seqOf, inF_str']
  simp [oIn, e]
theorem oNin_strsAt {i : Nat} (n : List Nat) (ss : List (List Nat)) (ei : h[i]? = some (.lst (ss.map W.str))) : oNin (.str n) (.ref i) h = .ok (.bl (!decide (n ∈ ss))) h := by
  have e : inA (.str n) (.ref i) h = some (decide (n ∈ ss)) := by simp [inA, dctOf, ei, flatF, seqOf, inF_str']
  simp [oNin, e]
theorem mapO_da {n : Nat} : ∀ {us : List W}, us.all (W.pl n) = true → ∃ ds, mapO (daOf h n) us = some ds ∧ ∀ w d, W.pl n w = true → daOf h n w = some d → anyD d ds = decide (w ∈ us)
  | [], _ => ⟨[], rfl, fun _ _ _ _ => rfl⟩
  | u :: us, hu => by
    rw [List.all_cons, Bool.and_eq_true] at hu
    obtain ⟨ds, e1, q⟩ := mapO_da hu.2
    obtain ⟨d, _, e2, _, _⟩ := da_pl (h := h) n u u hu.1 hu.1
    refine ⟨d :: ds, by rw [mapO, e2, e1]; rfl, fun w e pw ew => ?_⟩
    obtain ⟨d', e', e3, e4, e5⟩ := da_pl (h := h) n u w hu.1 pw
    rw [e2] at e3
    rw [ew] at e4
    cases e3
    cases e4
    have q1 : ds.any (fun z => Da.eqB z e) = decide (w ∈ us) := q w e pw ew
    show (d :: ds).any (fun z => Da.eqB z e) = _
    rw [List.any_cons, e5, q1]
    simp only [List.mem_cons]
    by_cases a : u = w
    · subst a; simp
    · have a' : ¬ w = u := fun z => a z.symm
      simp [a, a']
/-- is it in there: values without truths, no flat one sought -/
theorem oIn_pl (hf : flatF w = false) (p : W.pl 59 w = true) (q : us.all (W.pl 59) = true) : oIn w (.fl us) h = .ok (.bl (decide (w ∈ us))) h := by
  obtain ⟨ds, e1, k⟩ := mapO_da (h := h) q
  obtain ⟨d, _, e2, _, _⟩ := da_pl (h := h) 60 w w (pl_le 59 60 w (by omega) p) (pl_le 59 60 w (by omega) p)
  obtain ⟨d', _, e3, _, _⟩ := da_pl (h := h) 59 w w p p
  have e4 : d = d' := by
    have key : ∀ (n : Nat) (w : W) (d : Da), W.pl n w = true → daOf h n w = some d → daOf h (n + 1) w = some d := by
      intro n
      induction n with
      | zero => intro w d p e; cases w <;> first | exact e | simp [W.pl] at p
      | succ n ih =>
        have all : ∀ (ws : List W) (ds : List Da), ws.all (W.pl n) = true → mapO (daOf h n) ws = some ds → mapO (daOf h (n + 1)) ws = some ds := by
          intro ws
          induction ws with
          | nil => intro ds _ e; exact e
          | cons w ws ihw =>
            intro ds p e
            rw [List.all_cons, Bool.and_eq_true] at p
            rw [mapO] at e
            obtain ⟨b, e1, e⟩ := Option.bind_eq_some_iff.mp e
            obtain ⟨bs, e2, e⟩ := Option.bind_eq_some_iff.mp e
            cases e
            rw [mapO, ih w b p.1 e1, ihw bs p.2 e2]
            rfl
        intro w d p e
        cases w with
        | tup ws =>
          rw [daOf] at e
          obtain ⟨ds, e1, rfl⟩ := Option.map_eq_some_iff.mp e
          rw [daOf, all ws ds p e1]
          rfl
        | fl ws =>
          rw [daOf] at e
          obtain ⟨ds, e1, rfl⟩ := Option.map_eq_some_iff.mp e
          rw [daOf, all ws ds p e1]
          rfl
        | _ => first | exact e | simp [W.pl] at p
    have := key 59 w d' p e3
    rw [e2] at this
    exact Option.some.inj this
  subst e4
  have e5 : daOf h deepest (.fl us) = some (.lst ds) := by
    rw [show deepest = 59 + 1 from rfl, daOf, e1]
    rfl
  have e6 : inA w (.fl us) h = some (decide (w ∈ us)) := by
    unfold inA
    have e2' : daOf h deepest w = some d := e2
    simp only [dctOf, hf, e2', e5, k w d p e3]
    simp
  unfold oIn
  split
  · simp [flatF] at hf
  · rw [e6]
/-! ### loops -/
end
/-- a loop over values x, the state s -/
theorem forL_st {α S : Type} {enc : α → W} {g : List (W × List W)} {tg : Tg} {b : Sm} (R : S → Env → Hs → Prop) (f : S → α → S) :
    ∀ (xs : List α) (s : S) (ρ : Env) (h : Hs), R s ρ h → (∀ s ρ h, R s ρ h → stays g h = true) →
    (∀ s x ρ h, x ∈ xs → R s ρ h → ∃ ρ1, tg.run (enc x) ρ = some ρ1 ∧ ((∃ ρ2 h2, b ρ1 h = .nx ρ2 h2 ∧ R (f s x) ρ2 h2) ∨ ∃ ρ2 h2, b ρ1 h = .ct ρ2 h2 ∧ R (f s x) ρ2 h2)) →
    ∃ ρ' h', forL g tg b (xs.map enc) ρ h = .nx ρ' h' ∧ R (xs.foldl f s) ρ' h'
  | [], s, ρ, h, r, hst, _ => ⟨ρ, h, by rw [List.map_nil, forL, if_pos (hst _ _ _ r)], r⟩
  | x :: xs, s, ρ, h, r, hst, step => by
    obtain ⟨ρ1, e1, q⟩ := step s x ρ h (List.mem_cons_self ..) r
    rw [List.map_cons, forL, if_pos (hst _ _ _ r), e1, onO_some]
    rcases q with ⟨ρ2, h2, e2, r2⟩ | ⟨ρ2, h2, e2, r2⟩
    · rw [e2]
      exact forL_st R f xs (f s x) ρ2 h2 r2 hst fun s y ρ h hy => step s y ρ h (List.mem_cons_of_mem _ hy)
    · rw [e2]
      exact forL_st R f xs (f s x) ρ2 h2 r2 hst fun s y ρ h hy => step s y ρ h (List.mem_cons_of_mem _ hy)
/-- .. that may end early: f says the next state, or the end's name -/
def foldE {α S B : Type} (f : S → α → S ⊕ B) : List α → S → S ⊕ B
  | [], s => .inl s
  | x :: xs, s => match f s x with
    | .inl s' => foldE f xs s'
    | .inr b => .inr b
def Out.ends : Out → Bool
  | .ret _ _ => true
  | .exc _ _ _ _ => true
  | _ => false
theorem forL_ex {α S B : Type} {enc : α → W} {g : List (W × List W)} {tg : Tg} {b : Sm} (R : S → Env → Hs → Prop) (f : S → α → S ⊕ B) (E : B → Out → Prop) (hE : ∀ b o, E b o → o.ends = true) :
    ∀ (xs : List α) (s : S) (ρ : Env) (h : Hs), R s ρ h → (∀ s ρ h, R s ρ h → stays g h = true) →
    (∀ s x ρ h, x ∈ xs → R s ρ h → ∃ ρ1, tg.run (enc x) ρ = some ρ1 ∧ match f s x with
      | .inl s' => ∃ ρ2 h2, (b ρ1 h = .nx ρ2 h2 ∨ b ρ1 h = .ct ρ2 h2) ∧ R s' ρ2 h2
      | .inr z => E z (b ρ1 h)) →
    match foldE f xs s with
      | .inl s' => ∃ ρ' h', forL g tg b (xs.map enc) ρ h = .nx ρ' h' ∧ R s' ρ' h'
      | .inr z => E z (forL g tg b (xs.map enc) ρ h)
  | [], s, ρ, h, r, hst, _ => ⟨ρ, h, by rw [List.map_nil, forL, if_pos (hst _ _ _ r)], r⟩
  | x :: xs, s, ρ, h, r, hst, step => by
    obtain ⟨ρ1, e1, q⟩ := step s x ρ h (List.mem_cons_self ..) r
    rw [List.map_cons, forL, if_pos (hst _ _ _ r), e1, onO_some, foldE]
    cases hf : f s x with
    | inl s' =>
      rw [hf] at q
      obtain ⟨ρ2, h2, e2, r2⟩ := q
      have := forL_ex R f E hE xs s' ρ2 h2 r2 hst fun s y ρ h hy => step s y ρ h (List.mem_cons_of_mem _ hy)
      rcases e2 with e2 | e2
      · rw [e2]; exact this
      · rw [e2]; exact this
    | inr z =>
      rw [hf] at q
      have q : E z (b ρ1 h) := q
      have hz := hE _ _ q
      show E z _
      revert q hz
      cases b ρ1 h with
      | ret w h2 => exact fun q _ => q
      | exc c p ρ2 h2 => exact fun q _ => q
      | _ => exact fun _ hz => by simp [Out.ends] at hz
/-- a comprehension that leaves the store alone: a new list -/
theorem comp_lz {α : Type} {it : I} {tg : Tg} {t : T} {e : D} {own : List Nat} {ρ : Env} {h : Hs} {g : List (W × List W)} (enc f : α → W) (p : α → Bool) (xs : List α) (hit : it ρ h = .ok (xs.map enc, g) h) (hg : ∀ acc, stays g (h ++ [.lst acc]) = true) (hb : xs.length ≤ bigL)
    (he : ∀ x, x ∈ xs → ∃ ρ1, tg.run (enc x) (wipe ρ own) = some ρ1 ∧ ∀ acc, t ρ1 (h ++ [.lst acc]) = .ok (p x) (h ++ [.lst acc]) ∧ (p x = true → e ρ1 (h ++ [.lst acc]) = .ok (f x) (h ++ [.lst acc]))) :
    dComp it tg t e own ρ h = .ok (.ref h.length) (h ++ [.lst ((xs.filter p).map f)]) := by
  have main : ∀ (ys : List α) (acc : List W), acc.length + ys.length ≤ bigL → (∀ y, y ∈ ys → y ∈ xs) → compL g h.length tg t e (ys.map enc) (wipe ρ own) (h ++ [.lst acc]) = .ok (.ref h.length) (h ++ [.lst (acc ++ (ys.filter p).map f)]) := by
    intro ys
    induction ys with
    | nil => intro acc _ _; simp [compL, hg]
    | cons y ys ih =>
      intro acc hl hy
      obtain ⟨ρ1, e1, e2⟩ := he y (hy y (List.mem_cons_self ..))
      obtain ⟨e3, e4⟩ := e2 acc
      rw [List.map_cons, compL, if_pos (hg acc), e1]
      dsimp only
      rw [e3, Res.noX_ok, Res.bind_ok]
      rw [List.length_cons] at hl
      cases hc : p y with
      | true =>
        have ln : acc.length < bigL := by omega
        have ih' := ih (acc ++ [f y]) (by simp; omega) fun z hz => hy z (List.mem_cons_of_mem _ hz)
        rw [if_pos rfl, e4 hc, Res.noX_ok, Res.bind_ok]
        simp [ln, ih', List.filter_cons, hc]
      | false =>
        have ih' := ih acc (by omega) fun z hz => hy z (List.mem_cons_of_mem _ hz)
        rw [if_neg Bool.false_ne_true]
        simp [ih', List.filter_cons, hc]
  unfold dComp
  rw [hit, Res.bind_ok]
  dsimp only
  rw [main xs [] (by simpa using hb) fun _ z => z, List.nil_append]
theorem comp_lm {α : Type} {it : I} {tg : Tg} {e : D} {own : List Nat} {ρ : Env} {h : Hs} {g : List (W × List W)} (enc f : α → W) (xs : List α) (hit : it ρ h = .ok (xs.map enc, g) h) (hg : ∀ acc, stays g (h ++ [.lst acc]) = true) (hb : xs.length ≤ bigL)
    (he : ∀ x, x ∈ xs → ∃ ρ1, tg.run (enc x) (wipe ρ own) = some ρ1 ∧ ∀ acc, e ρ1 (h ++ [.lst acc]) = .ok (f x) (h ++ [.lst acc])) :
    dComp it tg tYes e own ρ h = .ok (.ref h.length) (h ++ [.lst (xs.map f)]) := by
  have := comp_lz (t := tYes) enc f (fun _ => true) xs hit hg hb fun x hx => by
    obtain ⟨ρ1, e1, e2⟩ := he x hx
    exact ⟨ρ1, e1, fun acc => ⟨rfl, fun _ => e2 acc⟩⟩
  rwa [List.filter_eq_self.mpr (fun _ _ => rfl)] at this
theorem pures_map {α : Type} {f : α → W} : ∀ {xs : List α}, (∀ x, x ∈ xs → (f x).pure = true) → W.pures (xs.map f) = true
  | [], _ => rfl
  | x :: xs, q => by
    rw [List.map_cons, pures_cons, q x (List.mem_cons_self ..), pures_map fun y hy => q y (List.mem_cons_of_mem _ hy)]
    rfl
/-- .. as a value -/
theorem comp_gz {α : Type} {it : I} {tg : Tg} {t : T} {e : D} {own : List Nat} {ρ : Env} {h : Hs} {g : List (W × List W)} (enc f : α → W) (p : α → Bool) (xs : List α) (hit : it ρ h = .ok (xs.map enc, g) h) (hg : ∀ acc, stays g (h ++ [.lst acc]) = true) (hb : xs.length ≤ bigL)
    (hp : ∀ x, x ∈ xs → p x = true → (f x).pure = true)
    (he : ∀ x, x ∈ xs → ∃ ρ1, tg.run (enc x) (wipe ρ own) = some ρ1 ∧ ∀ acc, t ρ1 (h ++ [.lst acc]) = .ok (p x) (h ++ [.lst acc]) ∧ (p x = true → e ρ1 (h ++ [.lst acc]) = .ok (f x) (h ++ [.lst acc]))) :
    dGz (dComp it tg t e own) ρ h = .ok (.fl ((xs.filter p).map f)) h := by
  rw [dGz_e, comp_lz enc f p xs hit hg hb he]
  exact gc_lst (Nat.le_refl _) (by simp) (pures_map fun x hx => by
    rw [List.mem_filter] at hx
    exact hp x hx.1 hx.2)
theorem comp_gm {α : Type} {it : I} {tg : Tg} {e : D} {own : List Nat} {ρ : Env} {h : Hs} {g : List (W × List W)} (enc f : α → W) (xs : List α) (hit : it ρ h = .ok (xs.map enc, g) h) (hg : ∀ acc, stays g (h ++ [.lst acc]) = true) (hb : xs.length ≤ bigL)
    (hp : ∀ x, x ∈ xs → (f x).pure = true)
    (he : ∀ x, x ∈ xs → ∃ ρ1, tg.run (enc x) (wipe ρ own) = some ρ1 ∧ ∀ acc, e ρ1 (h ++ [.lst acc]) = .ok (f x) (h ++ [.lst acc])) :
    dGz (dComp it tg tYes e own) ρ h = .ok (.fl (xs.map f)) h := by
  have := comp_gz (t := tYes) enc f (fun _ => true) xs hit hg hb (fun x hx _ => hp x hx) fun x hx => by
    obtain ⟨ρ1, e1, e2⟩ := he x hx
    exact ⟨ρ1, e1, fun acc => ⟨rfl, fun _ => e2 acc⟩⟩
  rwa [List.filter_eq_self.mpr (fun _ _ => rfl)] at this
theorem rngW_map (lo : Int) (n : Nat) : rngW lo n = (List.range n).map fun (k : Nat) => W.int (lo + k) := rfl
theorem lim100 (j : Int) (h0 : 0 < j) (h1 : j < 2 ^ 100) : limbs j ≤ 300 := limbs_small (n := 100) (by omega) (by omega)
/-- a divisor of few figures -/
theorem oDivS {i j : Int} {h : Hs} (h0 : 0 < j) (h1 : j < 2 ^ 100) : oDiv (.int i) (.int j) h = .ok (.int (i / j)) h := oDivP h0 (lim100 j h0 h1)
/-! ### while -/
theorem FUEL_big {n : Nat} (h : n < 2 ^ 9000) : n < FUEL := by
  unfold FUEL
  exact Nat.lt_of_lt_of_le h (Nat.pow_le_pow_right (by omega) (by omega))
theorem whileF_mono {t : T} {b : Sm} : ∀ (n m : Nat) (ρ : Env) (h : Hs) (o : Out), whileF t b n ρ h = o → o ≠ .stuck → n ≤ m → whileF t b m ρ h = o
  | 0, _, _, _, _, e, hs, _ => absurd e.symm hs
  | n + 1, 0, _, _, _, _, _, hl => absurd hl (by omega)
  | n + 1, m + 1, ρ, h, o, e, hs, hl => by
    rw [whileF] at e ⊢
    cases ht : t ρ h with
    | stuck => rw [ht] at e; exact absurd e.symm hs
    | exc c p h1 => rw [ht] at e; exact e
    | ok c h1 =>
      rw [ht] at e
      rw [onR_ok] at e ⊢
      cases c with
      | false => exact e
      | true =>
        rw [if_pos rfl] at e ⊢
        cases hb : b ρ h1 with
        | nx ρ2 h2 => rw [hb] at e; exact whileF_mono n m ρ2 h2 o e hs (by omega)
        | ct ρ2 h2 => rw [hb] at e; exact whileF_mono n m ρ2 h2 o e hs (by omega)
        | bk ρ2 h2 => rw [hb] at e; exact e
        | ret w h2 => rw [hb] at e; exact e
        | exc c p ρ2 h2 => rw [hb] at e; exact e
        | stuck => rw [hb] at e; exact e
theorem sWhile_of {t : T} {b : Sm} {n : Nat} {ρ : Env} {h : Hs} {o : Out} (e : whileF t b n ρ h = o) (hs : o ≠ .stuck) (hn : n ≤ FUEL) : sWhile t b ρ h = o := whileF_mono n FUEL ρ h o e hs hn

/-- a while that comes to an end -/
theorem while_ex {S : Type} {t : T} {b : Sm} (R : S → Env → Hs → Prop) (m : S → Nat) (c : S → Bool) (ht : ∀ s ρ h, R s ρ h → t ρ h = .ok (c s) h)
    (hb : ∀ s ρ h, R s ρ h → c s = true → ∃ s2 ρ2 h2, (b ρ h = .nx ρ2 h2 ∨ b ρ h = .ct ρ2 h2) ∧ R s2 ρ2 h2 ∧ m s2 < m s) (s : S) (ρ : Env) (h : Hs) (r : R s ρ h) (hm : m s < 2 ^ 9000) :
    ∃ s' ρ' h', sWhile t b ρ h = .nx ρ' h' ∧ R s' ρ' h' ∧ c s' = false := by
  have key : ∀ (n : Nat) (s : S) (ρ : Env) (h : Hs), m s < n → R s ρ h → ∃ s' ρ' h', whileF t b n ρ h = .nx ρ' h' ∧ R s' ρ' h' ∧ c s' = false := by
    intro n
    induction n with
    | zero => intro s ρ h l _; omega
    | succ n ih =>
      intro s ρ h l r
      rw [whileF, ht s ρ h r, onR_ok]
      cases hc : c s with
      | false => rw [if_neg Bool.false_ne_true]; exact ⟨s, ρ, h, rfl, r, hc⟩
      | true =>
        rw [if_pos rfl]
        obtain ⟨s2, ρ2, h2, e2, r2, l2⟩ := hb s ρ h r hc
        obtain ⟨s3, ρ3, h3, e3, r3, c3⟩ := ih s2 ρ2 h2 (by omega) r2
        rcases e2 with e2 | e2
        · exact ⟨s3, ρ3, h3, by rw [e2]; exact e3, r3, c3⟩
        · exact ⟨s3, ρ3, h3, by rw [e2]; exact e3, r3, c3⟩
  obtain ⟨s', ρ', h', e, r', c'⟩ := key (m s + 1) s ρ h (by omega) r
  exact ⟨s', ρ', h', sWhile_of e (by intro z; cases z) (FUEL_big hm), r', c'⟩
/-! the last of a list at hand -/
theorem mPop_end {h : Hs} {ws : List W} {w : W} : mPop (.ref h.length) [] (h ++ [.lst (ws ++ [w])]) = .ok w (h ++ [.lst ws]) := by
  simp [mPop]
theorem ix_end {h : Hs} {ws : List W} {w : W} : oIx (.ref h.length) (.int (-1)) (h ++ [.lst (ws ++ [w])]) = .ok w (h ++ [.lst (ws ++ [w])]) := by
  simp [oIx, atW_last]
theorem st_end {h : Hs} {ws : List W} {w y : W} : stL (.ref h.length) (.int (-1)) y (h ++ [.lst (ws ++ [w])]) = some (h ++ [.lst (ws ++ [y])]) := by
  have : ixW (ws.length + 1) (-1) = some ws.length := by
    unfold ixW
    rw [if_neg (by omega), if_pos (by omega)]
    congr 1
    omega
  simp [stL, this]
theorem len_end {h : Hs} {ws : List W} : bLen [.ref h.length] (h ++ [.lst ws]) = .ok (.int ws.length) (h ++ [.lst ws]) := bLen_ref (by simp)
theorem enumW_at : ∀ (ws : List W) (k i : Nat), (enumW k ws)[i]? = (ws[i]?).map fun w => .tup [.int ((k + i : Nat) : Int), w]
  | [], k, i => by simp [enumW]
  | w :: ws, k, 0 => by simp [enumW]
  | w :: ws, k, i + 1 => by
    rw [enumW, List.getElem?_cons_succ, enumW_at ws (k + 1) i, List.getElem?_cons_succ]
    congr 2
    funext w
    congr 4
    omega
theorem enumW_length : ∀ (ws : List W) (k : Nat), (enumW k ws).length = ws.length
  | [], _ => rfl
  | w :: ws, k => by rw [enumW, List.length_cons, enumW_length ws (k + 1), List.length_cons]
end PF
namespace PF
namespace Law
abbrev K_PruneError : Nat := 0
abbrev K_NoRatio : Nat := 1
abbrev K_NoPrice : Nat := 2
def L1_shared_by : Sm := sSeq (sAsg (dCall bDivmod (aCons (dV 0) (aCons (dV 1) (aNil)))) (.t [.n 2, .n 3])) (sSeq (sAsg (dV 1) (.n 0)) (sAsg (dV 3) (.n 1)))
def b_shared_by : Sm := sSeq (sAsg (dCall bAbs (aCons (dV 0) (aNil))) (.n 0)) (sSeq (sAsg (dCall bAbs (aCons (dV 1) (aNil))) (.n 1)) (sSeq (sWhile (tVal (dBin oGt (dV 1) (dC (.int 0)))) (L1_shared_by)) (sRet (dV 0))))
def f_shared_by : Fn := defF 2 4 b_shared_by
theorem f_shared_by_e (w0 w1 : W) (h : Hs) : f_shared_by [w0, w1] h = gc h (endF (b_shared_by [some w0, some w1, none, none] h)) := rfl
def b_ratio : Sm := sSeq (sIf (tVal (dBin oEq (dV 1) (dC (.int 0)))) (sRaise 1) (sNx)) (sSeq (sAsg (dCall f_shared_by (aCons (dV 0) (aCons (dV 1) (aNil)))) (.n 2)) (sSeq (sIf (tVal (dBin oLt (dV 1) (dC (.int 0)))) (sAsg (dUn oNeg (dV 2)) (.n 2)) (sNx)) (sRet (dTup (aCons (dBin oDiv (dV 0) (dV 2)) (aCons (dBin oDiv (dV 1) (dV 2)) (aNil)))))))
def f_ratio : Fn := defF 2 3 b_ratio
theorem f_ratio_e (w0 w1 : W) (h : Hs) : f_ratio [w0, w1] h = gc h (endF (b_ratio [some w0, some w1, none] h)) := rfl
def b_plus : Sm := sRet (dCall f_ratio (aCons (dBin oAdd (dBin oMul (dBin oIx (dV 0) (dC (.int 0))) (dBin oIx (dV 1) (dC (.int 1)))) (dBin oMul (dBin oIx (dV 1) (dC (.int 0))) (dBin oIx (dV 0) (dC (.int 1))))) (aCons (dBin oMul (dBin oIx (dV 0) (dC (.int 1))) (dBin oIx (dV 1) (dC (.int 1)))) (aNil))))
def f_plus : Fn := defF 2 2 b_plus
theorem f_plus_e (w0 w1 : W) (h : Hs) : f_plus [w0, w1] h = gc h (endF (b_plus [some w0, some w1] h)) := rfl
def b_under : Sm := sRet (dBin oLt (dBin oMul (dBin oIx (dV 0) (dC (.int 0))) (dBin oIx (dV 1) (dC (.int 1)))) (dBin oMul (dBin oIx (dV 1) (dC (.int 0))) (dBin oIx (dV 0) (dC (.int 1)))))
def f_under : Fn := defF 2 2 b_under
theorem f_under_e (w0 w1 : W) (h : Hs) : f_under [w0, w1] h = gc h (endF (b_under [some w0, some w1] h)) := rfl
def b_best_under (rec : Fn) : Sm := sSeq (sAsg (dCall f_plus (aCons (dBin oIx (dV 0) (dC (.int 1))) (aCons (dV 1) (aNil)))) (.n 3)) (sSeq (sIf (tVal (dBin oEq (dBin oIx (dV 0) (dC (.int 0))) (dC (.str [101, 110, 100])))) (sRet (dTup (aCons (dV 3) (aCons (dGz (dLst (aCons (dV 2) (aNil)))) (aNil))))) (sNx)) (sSeq (sAsg (dCall rec (aCons (dBin oIx (dV 0) (dC (.int 2))) (aCons (dV 1) (aCons (dBin oAdd (dV 2) (dC (.str [121]))) (aNil))))) (.t [.n 4, .n 5])) (sSeq (sAsg (dCall rec (aCons (dBin oIx (dV 0) (dC (.int 3))) (aCons (dV 1) (aCons (dBin oAdd (dV 2) (dC (.str [110]))) (aNil))))) (.t [.n 6, .n 7])) (sSeq (sAsg (dCall f_plus (aCons (dV 4) (aCons (dV 6) (aNil)))) (.n 8)) (sSeq (sIf (tVal (dCall f_under (aCons (dV 8) (aCons (dV 3) (aNil))))) (sRet (dTup (aCons (dV 8) (aCons (dGz (dBin oAdd (dV 7) (dV 5))) (aNil))))) (sNx)) (sRet (dTup (aCons (dV 3) (aCons (dGz (dLst (aCons (dV 2) (aNil)))) (aNil))))))))))
def f_best_under : Nat → Fn
  | 0 => fun _ _ => .stuck
  | n + 1 => defF 3 9 (b_best_under (f_best_under n))
theorem f_best_under_e (n : Nat) (w0 w1 w2 : W) (h : Hs) : f_best_under (n + 1) [w0, w1, w2] h = gc h (endF (b_best_under (f_best_under n) [some w0, some w1, some w2, none, none, none, none, none, none] h)) := rfl
def b_cheapest : Sm := sSeq (sIf (tVal (dBin oLt (dBin oIx (dV 1) (dC (.int 0))) (dC (.int 0)))) (sRaiseF 2 [112, 114, 105, 99, 101] (dV 1)) (sNx)) (sRet (dBin oIx (dCall (f_best_under 64) (aCons (dV 0) (aCons (dV 1) (aCons (dC (.str [])) (aNil))))) (dC (.int 1))))
def f_cheapest : Fn := defF 2 2 b_cheapest
theorem f_cheapest_e (w0 w1 : W) (h : Hs) : f_cheapest [w0, w1] h = gc h (endF (b_cheapest [some w0, some w1] h)) := rfl
def b_minus : Sm := sRet (dCall f_ratio (aCons (dBin oSub (dBin oMul (dBin oIx (dV 0) (dC (.int 0))) (dBin oIx (dV 1) (dC (.int 1)))) (dBin oMul (dBin oIx (dV 1) (dC (.int 0))) (dBin oIx (dV 0) (dC (.int 1))))) (aCons (dBin oMul (dBin oIx (dV 0) (dC (.int 1))) (dBin oIx (dV 1) (dC (.int 1)))) (aNil))))
def f_minus : Fn := defF 2 2 b_minus
theorem f_minus_e (w0 w1 : W) (h : Hs) : f_minus [w0, w1] h = gc h (endF (b_minus [some w0, some w1] h)) := rfl
def b_over : Sm := sSeq (sIf (tVal (dBin oEq (dBin oIx (dV 1) (dC (.int 0))) (dC (.int 0)))) (sRaise 1) (sNx)) (sRet (dCall f_ratio (aCons (dBin oMul (dBin oIx (dV 0) (dC (.int 0))) (dBin oIx (dV 1) (dC (.int 1)))) (aCons (dBin oMul (dBin oIx (dV 0) (dC (.int 1))) (dBin oIx (dV 1) (dC (.int 0)))) (aNil)))))
def f_over : Fn := defF 2 2 b_over
theorem f_over_e (w0 w1 : W) (h : Hs) : f_over [w0, w1] h = gc h (endF (b_over [some w0, some w1] h)) := rfl
def b_linked_under (rec : Fn) : Sm := sSeq (sIf (tVal (dBin oIn (dV 2) (dV 1))) (sRet (dTup (aCons (dBin oIx (dV 0) (dC (.int 1))) (aCons (dC (.int 1)) (aCons (dGz (dLst (aNil))) (aNil)))))) (sNx)) (sSeq (sAsg (dCall rec (aCons (dBin oIx (dV 0) (dC (.int 2))) (aCons (dV 1) (aCons (dBin oAdd (dV 2) (dC (.str [121]))) (aNil))))) (.t [.n 3, .n 4, .n 5])) (sSeq (sAsg (dCall rec (aCons (dBin oIx (dV 0) (dC (.int 3))) (aCons (dV 1) (aCons (dBin oAdd (dV 2) (dC (.str [110]))) (aNil))))) (.t [.n 6, .n 7, .n 8])) (sSeq (sAsg (dCall f_plus (aCons (dV 3) (aCons (dV 6) (aNil)))) (.n 9)) (sSeq (sAsg (dBin oAdd (dV 4) (dV 7)) (.n 10)) (sSeq (sAsg (dCall f_over (aCons (dCall f_minus (aCons (dBin oIx (dV 0) (dC (.int 1))) (aCons (dV 9) (aNil)))) (aCons (dTup (aCons (dBin oSub (dV 10) (dC (.int 1))) (aCons (dC (.int 1)) (aNil)))) (aNil)))) (.n 11)) (sRet (dTup (aCons (dV 9) (aCons (dV 10) (aCons (dGz (dBin oAdd (dGz (dBin oAdd (dGz (dLst (aCons (dTup (aCons (dV 2) (aCons (dV 11) (aNil)))) (aNil)))) (dV 8))) (dV 5))) (aNil)))))))))))
def f_linked_under : Nat → Fn
  | 0 => fun _ _ => .stuck
  | n + 1 => defF 3 12 (b_linked_under (f_linked_under n))
theorem f_linked_under_e (n : Nat) (w0 w1 w2 : W) (h : Hs) : f_linked_under (n + 1) [w0, w1, w2] h = gc h (endF (b_linked_under (f_linked_under n) [some w0, some w1, some w2, none, none, none, none, none, none, none, none, none] h)) := rfl
def b_all_links : Sm := sRet (dBin oIx (dCall (f_linked_under 64) (aCons (dV 0) (aCons (dV 1) (aCons (dC (.str [])) (aNil))))) (dC (.int 2)))
def f_all_links : Fn := defF 2 2 b_all_links
theorem f_all_links_e (w0 w1 : W) (h : Hs) : f_all_links [w0, w1] h = gc h (endF (b_all_links [some w0, some w1] h)) := rfl
def b_tops_of : Sm := sRet (dGz (dComp (iAny (dV 0)) (.n 2) (tVal (dMeth .str mStarts (dV 1) (aCons (dV 2) (aNil)))) (dV 2) [2]))
def f_tops_of : Fn := defF 2 3 b_tops_of
theorem f_tops_of_e (w0 w1 : W) (h : Hs) : f_tops_of [w0, w1] h = gc h (endF (b_tops_of [some w0, some w1, none] h)) := rfl
def b_cut : Sm := sSeq (sAsg (dGz (dComp (iAny (dV 0)) (.n 4) (tVal (dBin oEq (dCall bLen (aCons (dCall f_tops_of (aCons (dV 1) (aCons (dV 4) (aNil)))) (aNil))) (dC (.int 0)))) (dV 4) [4])) (.n 2)) (sSeq (sAsg (dGz (dComp (iAny (dV 1)) (.n 4) (tVal (dBin oEq (dCall bLen (aCons (dCall f_tops_of (aCons (dV 1) (aCons (dV 4) (aNil)))) (aNil))) (dC (.int 1)))) (dV 4) [4])) (.n 3)) (sRet (dGz (dCall bSorted (aCons (dGz (dBin oAdd (dV 2) (dV 3))) (aNil))))))
def f_cut : Fn := defF 2 5 b_cut
theorem f_cut_e (w0 w1 : W) (h : Hs) : f_cut [w0, w1] h = gc h (endF (b_cut [some w0, some w1, none, none, none] h)) := rfl
def L1_least_link : Sm := sIf (tVal (dCall f_under (aCons (dV 3) (aCons (dV 1) (aNil))))) (sAsg (dV 3) (.n 1)) (sNx)
def b_least_link : Sm := sSeq (sAsg (dBin oIx (dBin oIx (dV 0) (dC (.int 0))) (dC (.int 1))) (.n 1)) (sSeq (sFor (iAny (dV 0)) (.t [.n 2, .n 3]) (L1_least_link)) (sRet (dV 1)))
def f_least_link : Fn := defF 1 4 b_least_link
theorem f_least_link_e (w0 : W) (h : Hs) : f_least_link [w0] h = gc h (endF (b_least_link [some w0, none, none, none] h)) := rfl
def L1_path : Sm := sSeq (sAsg (dCall f_all_links (aCons (dV 0) (aCons (dV 2) (aNil)))) (.n 4)) (sSeq (sAsg (dCall f_least_link (aCons (dV 4) (aNil))) (.n 1)) (sSeq (sAsg (dCall f_cut (aCons (dV 2) (aCons (dGz (dComp (iAny (dV 4)) (.t [.n 5, .n 6]) (tVal (dBin oEq (dV 6) (dV 1))) (dV 5) [5, 6])) (aNil)))) (.n 2)) (sExp (dMeth .lst mAppend (dV 3) (aCons (dTup (aCons (dV 1) (aCons (dV 2) (aNil)))) (aNil))))))
def b_path : Sm := sSeq (sAsg (dTup (aCons (dC (.int 0)) (aCons (dC (.int 1)) (aNil)))) (.n 1)) (sSeq (sAsg (dCall f_cheapest (aCons (dV 0) (aCons (dV 1) (aNil)))) (.n 2)) (sSeq (sAsg (dLst (aCons (dTup (aCons (dV 1) (aCons (dV 2) (aNil)))) (aNil))) (.n 3)) (sSeq (sWhile (tVal (dBin oNe (dV 2) (dGz (dLst (aCons (dC (.str [])) (aNil)))))) (L1_path)) (sRet (dV 3)))))
def f_path : Fn := defF 1 7 b_path
theorem f_path_e (w0 : W) (h : Hs) : f_path [w0] h = gc h (endF (b_path [some w0, none, none, none, none, none, none] h)) := rfl
def b__law_cell : Sm := sSeq (sIf (tVal (dBin oLt (dV 1) (dCall bLen (aCons (dV 0) (aNil))))) (sRet (dBin oIx (dV 0) (dV 1))) (sNx)) (sRet (dC (.int 0)))
def f__law_cell : Fn := defF 2 2 b__law_cell
theorem f__law_cell_e (w0 w1 : W) (h : Hs) : f__law_cell [w0, w1] h = gc h (endF (b__law_cell [some w0, some w1] h)) := rfl
def b__law_pick : Sm := sSeq (sAsg (dBin oMod (dBin oMul (dBin oAdd (dBin oMod (dV 0) (dC (.int 2147483647))) (dC (.int 7))) (dBin oAdd (dC (.int 48271)) (dBin oMul (dC (.int 7919)) (dV 1)))) (dC (.int 2147483647))) (.n 3)) (sRet (dBin oMod (dBin oDiv (dBin oMod (dBin oMul (dV 3) (dC (.int 16807))) (dC (.int 2147483647))) (dC (.int 8))) (dV 2)))
def f__law_pick : Fn := defF 3 4 b__law_pick
theorem f__law_pick_e (w0 w1 w2 : W) (h : Hs) : f__law_pick [w0, w1, w2] h = gc h (endF (b__law_pick [some w0, some w1, some w2, none] h)) := rfl
def L1__law_lowest : Sm := sSeq (sAsg (dBin oMod (dV 2) (dV 3)) (.n 4)) (sSeq (sAsg (dV 3) (.n 2)) (sAsg (dV 4) (.n 3)))
def b__law_lowest : Sm := sSeq (sAsg (dCall bAbs (aCons (dV 0) (aNil))) (.n 2)) (sSeq (sAsg (dV 1) (.n 3)) (sSeq (sWhile (tVal (dBin oGt (dV 3) (dC (.int 0)))) (L1__law_lowest)) (sRet (dTup (aCons (dBin oDiv (dV 0) (dV 2)) (aCons (dBin oDiv (dV 1) (dV 2)) (aNil)))))))
def f__law_lowest : Fn := defF 2 5 b__law_lowest
theorem f__law_lowest_e (w0 w1 : W) (h : Hs) : f__law_lowest [w0, w1] h = gc h (endF (b__law_lowest [some w0, some w1, none, none, none] h)) := rfl
def b__law_worth : Sm := sSeq (sIf (tVal (dBin oEq (dBin oDiv (dV 1) (dC (.int 2))) (dC (.int 0)))) (sRet (dBin oSub (dCall f__law_pick (aCons (dV 0) (aCons (dC (.int 5)) (aCons (dC (.int 7)) (aNil))))) (dC (.int 1)))) (sNx)) (sSeq (sIf (tVal (dBin oEq (dBin oDiv (dV 1) (dC (.int 2))) (dC (.int 1)))) (sRet (dBin oMod (dV 0) (dC (.int 1000)))) (sNx)) (sRet (dBin oSub (dBin oMod (dV 0) (dBin oPow (dC (.int 10)) (dC (.int 30)))) (dBin oMul (dC (.int 5)) (dBin oPow (dC (.int 10)) (dC (.int 29)))))))
def f__law_worth : Fn := defF 2 2 b__law_worth
theorem f__law_worth_e (w0 w1 : W) (h : Hs) : f__law_worth [w0, w1] h = gc h (endF (b__law_worth [some w0, some w1] h)) := rfl
def b__law_joined : Sm := sSeq (sAsg (dBin oAdd (dBin oIx (dV 1) (dC (.int 1))) (dBin oIx (dV 2) (dC (.int 1)))) (.n 4)) (sSeq (sAsg (dBin oAdd (dBin oIx (dV 1) (dC (.int 2))) (dBin oIx (dV 2) (dC (.int 2)))) (.n 5)) (sSeq (sAsg (dBin oAdd (dV 4) (dBin oMul (dBin oSub (dCall f__law_pick (aCons (dV 0) (aCons (dC (.int 3)) (aCons (dC (.int 5)) (aNil))))) (dC (.int 1))) (dBin oSub (dV 5) (dC (.int 1))))) (.n 6)) (sSeq (sIf (tVal (dBin oEq (dBin oMod (dV 3) (dC (.int 2))) (dC (.int 1)))) (sAsg (dBin oAdd (dV 4) (dBin oMul (dCall bAbs (aCons (dCall f__law_worth (aCons (dBin oAdd (dBin oDiv (dV 0) (dC (.int 2))) (dC (.int 5))) (aCons (dV 3) (aNil)))) (aNil))) (dBin oSub (dC (.int 1)) (dBin oMul (dC (.int 2)) (dBin oDiv (dCall f__law_pick (aCons (dV 0) (aCons (dC (.int 6)) (aCons (dC (.int 9)) (aNil))))) (dC (.int 8))))))) (.n 6)) (sNx)) (sSeq (sIf (tVal (dBin oEq (dCall f__law_pick (aCons (dV 0) (aCons (dC (.int 4)) (aCons (dC (.int 2)) (aNil))))) (dC (.int 0)))) (sRet (dTup (aCons (dTup (aCons (dC (.str [102, 111, 114, 107])) (aCons (dV 6) (aCons (dBin oIx (dV 1) (dC (.int 0))) (aCons (dBin oIx (dV 2) (dC (.int 0))) (aNil)))))) (aCons (dV 4) (aCons (dV 5) (aNil)))))) (sNx)) (sRet (dTup (aCons (dTup (aCons (dC (.str [102, 111, 114, 107])) (aCons (dV 6) (aCons (dBin oIx (dV 2) (dC (.int 0))) (aCons (dBin oIx (dV 1) (dC (.int 0))) (aNil)))))) (aCons (dV 4) (aCons (dV 5) (aNil))))))))))
def f__law_joined : Fn := defF 4 7 b__law_joined
theorem f__law_joined_e (w0 w1 w2 w3 : W) (h : Hs) : f__law_joined [w0, w1, w2, w3] h = gc h (endF (b__law_joined [some w0, some w1, some w2, some w3, none, none, none] h)) := rfl
def L1__law_tree : Sm := sSeq (sAsg (dMeth .lst mPop (dV 2) aNil) (.n 7)) (sSeq (sSub (dCall f__law_joined (aCons (dBin oAdd (dV 4) (dV 6)) (aCons (dBin oIx (dV 2) (dUn oNeg (dC (.int 1)))) (aCons (dV 7) (aCons (dBin oMod (dV 1) (dC (.int 6))) (aNil)))))) (dV 2) (dUn oNeg (dC (.int 1))) stL) (sAug 6 oSub (dC (.int 1))))
def L2__law_tree : Sm := sSeq (sAsg (dCall f__law_worth (aCons (dV 4) (aCons (dBin oMod (dV 1) (dC (.int 6))) (aNil)))) (.n 5)) (sSeq (sExp (dMeth .lst mAppend (dV 2) (aCons (dTup (aCons (dTup (aCons (dC (.str [101, 110, 100])) (aCons (dV 5) (aNil)))) (aCons (dV 5) (aCons (dC (.int 1)) (aNil))))) (aNil)))) (sSeq (sAsg (dCall f__law_pick (aCons (dV 4) (aCons (dC (.int 1)) (aCons (dC (.int 3)) (aNil))))) (.n 6)) (sSeq (sIf (tVal (dBin oEq (dBin oDiv (dV 1) (dC (.int 6))) (dC (.int 1)))) (sAsg (dC (.int 1)) (.n 6)) (sNx)) (sWhile (PF.tAnd (tVal (dBin oGt (dV 6) (dC (.int 0)))) (tVal (dBin oGt (dCall bLen (aCons (dV 2) (aNil))) (dC (.int 1))))) (L1__law_tree)))))
def L3__law_tree : Sm := sSeq (sAsg (dMeth .lst mPop (dV 2) aNil) (.n 7)) (sSub (dCall f__law_joined (aCons (dBin oAdd (dBin oIx (dV 0) (dC (.int 0))) (dCall bLen (aCons (dV 2) (aNil)))) (aCons (dBin oIx (dV 2) (dUn oNeg (dC (.int 1)))) (aCons (dV 7) (aCons (dBin oMod (dV 1) (dC (.int 6))) (aNil)))))) (dV 2) (dUn oNeg (dC (.int 1))) stL)
def b__law_tree : Sm := sSeq (sAsg (dLst (aNil)) (.n 2)) (sSeq (sFor (iEnum (dGz (dSl (dV 0) (pNo) (pAt (dC (.int 21)))))) (.t [.n 3, .n 4]) (L2__law_tree)) (sSeq (sWhile (tVal (dBin oGt (dCall bLen (aCons (dV 2) (aNil))) (dC (.int 1)))) (L3__law_tree)) (sSeq (sIf (PF.tAnd (tVal (dBin oEq (dCall f__law_pick (aCons (dBin oIx (dV 0) (dC (.int 0))) (aCons (dC (.int 9)) (aCons (dC (.int 4)) (aNil))))) (dC (.int 0)))) (tVal (dBin oLt (dBin oIx (dBin oIx (dV 2) (dC (.int 0))) (dC (.int 2))) (dC (.int 11))))) (sSub (dCall f__law_joined (aCons (dBin oIx (dV 0) (dC (.int 0))) (aCons (dBin oIx (dV 2) (dC (.int 0))) (aCons (dBin oIx (dV 2) (dC (.int 0))) (aCons (dBin oMod (dV 1) (dC (.int 6))) (aNil)))))) (dV 2) (dC (.int 0)) stL) (sNx)) (sRet (dBin oIx (dBin oIx (dV 2) (dC (.int 0))) (dC (.int 0)))))))
def f__law_tree : Fn := defF 2 8 b__law_tree
theorem f__law_tree_e (w0 w1 : W) (h : Hs) : f__law_tree [w0, w1] h = gc h (endF (b__law_tree [some w0, some w1, none, none, none, none, none, none] h)) := rfl
def b__law_digit : Sm := sSeq (sIf (tVal (dBin oGt (dBin oIx (dV 0) (dC (.int 0))) (dC (.int 0)))) (sSeq (sAsg (dBin oMod (dBin oIx (dV 0) (dC (.int 0))) (dV 1)) (.n 2)) (sSeq (sSub (dBin oDiv (dBin oIx (dV 0) (dC (.int 0))) (dV 1)) (dV 0) (dC (.int 0)) stL) (sRet (dV 2)))) (sNx)) (sSeq (sSub (dBin oMod (dBin oAdd (dBin oMul (dBin oIx (dV 0) (dC (.int 2))) (dC (.int 48271))) (dC (.int 11))) (dC (.int 2147483647))) (dV 0) (dC (.int 2)) stL) (sRet (dBin oMod (dBin oDiv (dBin oIx (dV 0) (dC (.int 2))) (dC (.int 64))) (dV 1))))
def f__law_digit : Fn := defF 2 3 b__law_digit
theorem f__law_digit_e (w0 w1 : W) (h : Hs) : f__law_digit [w0, w1] h = gc h (endF (b__law_digit [some w0, some w1, none] h)) := rfl
def b__law_dug_from (rec : Fn) : Sm := sSeq (sAsg (dBin oSub (dCall f__law_digit (aCons (dV 0) (aCons (dV 1) (aNil)))) (dBin oDiv (dV 1) (dC (.int 3)))) (.n 2)) (sSeq (sAsg (dCall f__law_digit (aCons (dV 0) (aCons (dC (.int 2)) (aNil)))) (.n 3)) (sSeq (sIf (PF.tOr (tVal (dBin oEq (dV 3) (dC (.int 0)))) (tVal (dBin oEq (dBin oIx (dV 0) (dC (.int 1))) (dC (.int 0))))) (sRet (dTup (aCons (dC (.str [101, 110, 100])) (aCons (dV 2) (aNil))))) (sNx)) (sSeq (sAugX oSub (dV 0) (dC (.int 1)) (dC (.int 1))) (sSeq (sAsg (dCall rec (aCons (dV 0) (aCons (dV 1) (aNil)))) (.n 4)) (sRet (dTup (aCons (dC (.str [102, 111, 114, 107])) (aCons (dV 2) (aCons (dV 4) (aCons (dCall rec (aCons (dV 0) (aCons (dV 1) (aNil)))) (aNil)))))))))))
def f__law_dug_from : Nat → Fn
  | 0 => fun _ _ => .stuck
  | n + 1 => defF 2 5 (b__law_dug_from (f__law_dug_from n))
theorem f__law_dug_from_e (n : Nat) (w0 w1 : W) (h : Hs) : f__law_dug_from (n + 1) [w0, w1] h = gc h (endF (b__law_dug_from (f__law_dug_from n) [some w0, some w1, none, none, none] h)) := rfl
def b__law_dug : Sm := sRet (dCall (f__law_dug_from 64) (aCons (dLst (aCons (dBin oDiv (dV 0) (dC (.int 3))) (aCons (dC (.int 15)) (aCons (dBin oMod (dV 0) (dC (.int 2147483647))) (aNil))))) (aCons (dBin oIx (dGz (dLst (aCons (dC (.int 5)) (aCons (dC (.int 41)) (aCons (dBin oPow (dC (.int 10)) (dC (.int 12))) (aNil)))))) (dBin oMod (dV 0) (dC (.int 3)))) (aNil))))
def f__law_dug : Fn := defF 1 1 b__law_dug
theorem f__law_dug_e (w0 : W) (h : Hs) : f__law_dug [w0] h = gc h (endF (b__law_dug [some w0] h)) := rfl
def b__law_handed (rec : Fn) : Sm := sSeq (sIf (tVal (dBin oEq (dBin oIx (dV 0) (dC (.int 0))) (dC (.str [101, 110, 100])))) (sRet (dTup (aCons (dC (.str [101, 110, 100])) (aCons (dCall f__law_lowest (aCons (dBin oIx (dV 0) (dC (.int 1))) (aCons (dV 1) (aNil)))) (aNil))))) (sNx)) (sSeq (sAsg (dCall rec (aCons (dBin oIx (dV 0) (dC (.int 2))) (aCons (dV 1) (aNil)))) (.n 2)) (sSeq (sAsg (dV 2) (.n 3)) (sSeq (sIf (tVal (dBin oNe (dBin oIx (dV 0) (dC (.int 3))) (dBin oIx (dV 0) (dC (.int 2))))) (sAsg (dCall rec (aCons (dBin oIx (dV 0) (dC (.int 3))) (aCons (dV 1) (aNil)))) (.n 3)) (sNx)) (sRet (dTup (aCons (dC (.str [102, 111, 114, 107])) (aCons (dCall f__law_lowest (aCons (dBin oIx (dV 0) (dC (.int 1))) (aCons (dV 1) (aNil)))) (aCons (dV 2) (aCons (dV 3) (aNil))))))))))
def f__law_handed : Nat → Fn
  | 0 => fun _ _ => .stuck
  | n + 1 => defF 2 4 (b__law_handed (f__law_handed n))
theorem f__law_handed_e (n : Nat) (w0 w1 : W) (h : Hs) : f__law_handed (n + 1) [w0, w1] h = gc h (endF (b__law_handed (f__law_handed n) [some w0, some w1, none, none] h)) := rfl
def b__law_bottom : Sm := sSeq (sAsg (dCall f__law_pick (aCons (dV 0) (aCons (dC (.int 11)) (aCons (dC (.int 4)) (aNil))))) (.n 1)) (sSeq (sIf (tVal (dBin oEq (dV 1) (dC (.int 0)))) (sRet (dC (.int 720720))) (sNx)) (sSeq (sIf (tVal (dBin oEq (dV 1) (dC (.int 1)))) (sRet (dBin oAdd (dC (.int 1)) (dBin oMod (dBin oDiv (dV 0) (dC (.int 3))) (dBin oSub (dBin oPow (dC (.int 10)) (dC (.int 30))) (dC (.int 1)))))) (sNx)) (sRet (dBin oAdd (dC (.int 1)) (dBin oMod (dBin oDiv (dV 0) (dC (.int 5))) (dC (.int 2)))))))
def f__law_bottom : Fn := defF 1 2 b__law_bottom
theorem f__law_bottom_e (w0 : W) (h : Hs) : f__law_bottom [w0] h = gc h (endF (b__law_bottom [some w0, none] h)) := rfl
def b__law_first (rec : Fn) : Sm := sSeq (sIf (tVal (dBin oEq (dBin oIx (dV 0) (dC (.int 0))) (dC (.str [101, 110, 100])))) (sRet (dTup (aCons (dBin oIx (dV 0) (dC (.int 1))) (aCons (dGz (dLst (aCons (dV 1) (aNil)))) (aNil))))) (sNx)) (sSeq (sAsg (dCall rec (aCons (dBin oIx (dV 0) (dC (.int 2))) (aCons (dBin oAdd (dV 1) (dC (.str [121]))) (aNil)))) (.n 2)) (sSeq (sAsg (dCall rec (aCons (dBin oIx (dV 0) (dC (.int 3))) (aCons (dBin oAdd (dV 1) (dC (.str [110]))) (aNil)))) (.n 3)) (sSeq (sIf (tVal (dBin oLe (dBin oIx (dV 0) (dC (.int 1))) (dBin oAdd (dBin oIx (dV 2) (dC (.int 0))) (dBin oIx (dV 3) (dC (.int 0)))))) (sRet (dTup (aCons (dBin oIx (dV 0) (dC (.int 1))) (aCons (dGz (dLst (aCons (dV 1) (aNil)))) (aNil))))) (sNx)) (sRet (dTup (aCons (dBin oAdd (dBin oIx (dV 2) (dC (.int 0))) (dBin oIx (dV 3) (dC (.int 0)))) (aCons (dBin oAdd (dBin oIx (dV 3) (dC (.int 1))) (dBin oIx (dV 2) (dC (.int 1)))) (aNil))))))))
def f__law_first : Nat → Fn
  | 0 => fun _ _ => .stuck
  | n + 1 => defF 2 4 (b__law_first (f__law_first n))
theorem f__law_first_e (n : Nat) (w0 w1 : W) (h : Hs) : f__law_first (n + 1) [w0, w1] h = gc h (endF (b__law_first (f__law_first n) [some w0, some w1, none, none] h)) := rfl
def b__law_links (rec : Fn) : Sm := sSeq (sIf (tVal (dBin oIn (dV 2) (dV 1))) (sRet (dTup (aCons (dBin oIx (dV 0) (dC (.int 1))) (aCons (dC (.int 1)) (aCons (dGz (dLst (aNil))) (aNil)))))) (sNx)) (sSeq (sAsg (dCall rec (aCons (dBin oIx (dV 0) (dC (.int 2))) (aCons (dV 1) (aCons (dBin oAdd (dV 2) (dC (.str [121]))) (aNil))))) (.n 3)) (sSeq (sAsg (dCall rec (aCons (dBin oIx (dV 0) (dC (.int 3))) (aCons (dV 1) (aCons (dBin oAdd (dV 2) (dC (.str [110]))) (aNil))))) (.n 4)) (sSeq (sAsg (dBin oAdd (dBin oIx (dV 3) (dC (.int 0))) (dBin oIx (dV 4) (dC (.int 0)))) (.n 5)) (sSeq (sAsg (dBin oAdd (dBin oIx (dV 3) (dC (.int 1))) (dBin oIx (dV 4) (dC (.int 1)))) (.n 6)) (sRet (dTup (aCons (dV 5) (aCons (dV 6) (aCons (dGz (dBin oAdd (dGz (dBin oAdd (dGz (dLst (aCons (dTup (aCons (dV 2) (aCons (dBin oSub (dBin oIx (dV 0) (dC (.int 1))) (dV 5)) (aCons (dBin oSub (dV 6) (dC (.int 1))) (aNil))))) (aNil)))) (dBin oIx (dV 4) (dC (.int 2))))) (dBin oIx (dV 3) (dC (.int 2))))) (aNil))))))))))
def f__law_links : Nat → Fn
  | 0 => fun _ _ => .stuck
  | n + 1 => defF 3 7 (b__law_links (f__law_links n))
theorem f__law_links_e (n : Nat) (w0 w1 w2 : W) (h : Hs) : f__law_links (n + 1) [w0, w1, w2] h = gc h (endF (b__law_links (f__law_links n) [some w0, some w1, some w2, none, none, none, none] h)) := rfl
def L1__law_next : Sm := sIf (tVal (dBin oLt (dBin oMul (dBin oIx (dV 5) (dC (.int 1))) (dV 4)) (dBin oMul (dV 3) (dBin oIx (dV 5) (dC (.int 2)))))) (sSeq (sAsg (dBin oIx (dV 5) (dC (.int 1))) (.n 3)) (sAsg (dBin oIx (dV 5) (dC (.int 2))) (.n 4))) (sNx)
def L2__law_next : Sm := sSeq (sAsg (dCall bMinLen (aCons (dGz (dBin oAdd (dGz (dComp (iAny (dV 6)) (.n 10) (tVal (dBin oEq (dGz (dSl (dV 8) (pNo) (pAt (dCall bLen (aCons (dV 10) (aNil)))))) (dV 10))) (dV 10) [10])) (dGz (dLst (aCons (dV 8) (aNil)))))) (aNil))) (.n 9)) (sIf (tVal (dBin oNin (dV 9) (dV 7))) (sExp (dMeth .lst mAppend (dV 7) (aCons (dV 9) (aNil)))) (sNx))
def b__law_next : Sm := sSeq (sAsg (dBin oIx (dCall (f__law_links 64) (aCons (dV 0) (aCons (dV 1) (aCons (dC (.str [])) (aNil))))) (dC (.int 2))) (.n 2)) (sSeq (sAsg (dBin oIx (dBin oIx (dV 2) (dC (.int 0))) (dC (.int 1))) (.n 3)) (sSeq (sAsg (dBin oIx (dBin oIx (dV 2) (dC (.int 0))) (dC (.int 2))) (.n 4)) (sSeq (sFor (iAny (dV 2)) (.n 5) (L1__law_next)) (sSeq (sAsg (dGz (dComp (iAny (dV 2)) (.n 5) (tVal (dBin oEq (dBin oMul (dBin oIx (dV 5) (dC (.int 1))) (dV 4)) (dBin oMul (dV 3) (dBin oIx (dV 5) (dC (.int 2)))))) (dBin oIx (dV 5) (dC (.int 0))) [5])) (.n 6)) (sSeq (sAsg (dLst (aNil)) (.n 7)) (sSeq (sFor (iAny (dV 1)) (.n 8) (L2__law_next)) (sRet (dTup (aCons (dV 3) (aCons (dV 4) (aCons (dGz (dCall bSorted (aCons (dV 7) (aNil)))) (aNil))))))))))))
def f__law_next : Fn := defF 2 11 b__law_next
theorem f__law_next_e (w0 w1 : W) (h : Hs) : f__law_next [w0, w1] h = gc h (endF (b__law_next [some w0, some w1, none, none, none, none, none, none, none, none, none] h)) := rfl
def L1_law : Sm := sSeq (sAsg (dCall f__law_next (aCons (dV 2) (aCons (dV 4) (aNil)))) (.t [.n 6, .n 7, .n 4])) (sExp (dMeth .lst mAppend (dV 5) (aCons (dTup (aCons (dCall f__law_lowest (aCons (dV 6) (aCons (dBin oMul (dV 7) (dV 3)) (aNil)))) (aCons (dV 4) (aNil)))) (aNil))))
def b_law : Sm := sSeq (sAsg (dCall f__law_cell (aCons (dV 0) (aCons (dC (.int 0)) (aNil)))) (.n 1)) (sSeq (sAsg (dCall f__law_tree (aCons (dGz (dBin oAdd (dGz (dLst (aCons (dCall f__law_cell (aCons (dV 0) (aCons (dC (.int 2)) (aNil)))) (aNil)))) (dGz (dSl (dV 0) (pAt (dC (.int 3))) (pAt (dC (.int 23))))))) (aCons (dCall f__law_pick (aCons (dV 1) (aCons (dC (.int 21)) (aCons (dC (.int 12)) (aNil))))) (aNil)))) (.n 2)) (sSeq (sIf (tVal (dBin oGe (dCall f__law_cell (aCons (dV 0) (aCons (dC (.int 2)) (aNil)))) (dBin oPow (dC (.int 10)) (dC (.int 18))))) (sAsg (dCall f__law_dug (aCons (dCall f__law_cell (aCons (dV 0) (aCons (dC (.int 2)) (aNil)))) (aNil))) (.n 2)) (sNx)) (sSeq (sAsg (dCall f__law_bottom (aCons (dCall f__law_cell (aCons (dV 0) (aCons (dC (.int 1)) (aNil)))) (aNil))) (.n 3)) (sSeq (sAsg (dBin oIx (dCall (f__law_first 64) (aCons (dV 2) (aCons (dC (.str [])) (aNil)))) (dC (.int 1))) (.n 4)) (sSeq (sAsg (dLst (aCons (dTup (aCons (dTup (aCons (dC (.int 0)) (aCons (dC (.int 1)) (aNil)))) (aCons (dV 4) (aNil)))) (aNil))) (.n 5)) (sSeq (sWhile (tVal (dBin oNe (dV 4) (dGz (dLst (aCons (dC (.str [])) (aNil)))))) (L1_law)) (sSeq (sAsg (dCall f_path (aCons (dCall (f__law_handed 64) (aCons (dV 2) (aCons (dV 3) (aNil)))) (aNil))) (.n 8)) (sRet (dAnd (dUn (oIs .list) (dV 8)) (dBin oEq (dV 8) (dV 5)))))))))))
def f_law : Fn := defF 1 9 b_law
theorem f_law_e (w0 : W) (h : Hs) : f_law [w0] h = gc h (endF (b_law [some w0, none, none, none, none, none, none, none, none] h)) := rfl
end Law
end PF
namespace PF
section
variable {h : Hs} {w : W}
@[simp] theorem dV_13 {a b c d e f g k l m n p q : Option W} {o : Env} : dV 13 (a :: b :: c :: d :: e :: f :: g :: k :: l :: m :: n :: p :: q :: some w :: o) h = .ok w h := (rfl)
@[simp] theorem dV_14 {a b c d e f g k l m n p q r : Option W} {o : Env} : dV 14 (a :: b :: c :: d :: e :: f :: g :: k :: l :: m :: n :: p :: q :: r :: some w :: o) h = .ok w h := (rfl)
@[simp] theorem dV_15 {a b c d e f g k l m n p q r s : Option W} {o : Env} : dV 15 (a :: b :: c :: d :: e :: f :: g :: k :: l :: m :: n :: p :: q :: r :: s :: some w :: o) h = .ok w h := (rfl)
@[simp] theorem dV_16 {a b c d e f g k l m n p q r s t : Option W} {o : Env} : dV 16 (a :: b :: c :: d :: e :: f :: g :: k :: l :: m :: n :: p :: q :: r :: s :: t :: some w :: o) h = .ok w h := (rfl)
theorem oEq_d {i j : Int} : oEq (.int i) (.int j) h = .ok (.bl (decide (i = j))) h := by rw [oEq_i, beq_dec]
theorem oNe_d {i j : Int} : oNe (.int i) (.int j) h = .ok (.bl (!decide (i = j))) h := by rw [oNe_i, beq_dec]
theorem cast0 : ((0 : Nat) : Int) = 0 := (rfl)
theorem cast1 : ((1 : Nat) : Int) = 1 := (rfl)
theorem cast2 : ((2 : Nat) : Int) = 2 := (rfl)
theorem cast3 : ((3 : Nat) : Int) = 3 := (rfl)
theorem cast4 : ((4 : Nat) : Int) = 4 := (rfl)
theorem cast5 : ((5 : Nat) : Int) = 5 := (rfl)
theorem dcd_t {p : Prop} [Decidable p] (k : p) : decide p = true := decide_eq_true k
end
end PF
namespace PF
namespace Law
theorem cell_e (ns : List Int) (k : Nat) (h : Hs) : f__law_cell [.fl (ns.map W.int), .int (k : Int)] h = .ok (.int (ns[k]?.getD 0)) h := by
  rw [f__law_cell_e]
  unfold b__law_cell
  by_cases hk : k < ns.length
  · have e := oIx_fl (h := h) (ws := ns.map W.int) (k := k) (w := .int ns[k]) (by simp [hk])
    simp [hk, e]
  · simp [hk]
theorem cell_0 (ns : List Int) (h : Hs) : f__law_cell [.fl (ns.map W.int), .int 0] h = .ok (.int (ns[0]?.getD 0)) h := cell_e ns 0 h
theorem cell_1 (ns : List Int) (h : Hs) : f__law_cell [.fl (ns.map W.int), .int 1] h = .ok (.int (ns[1]?.getD 0)) h := cell_e ns 1 h
theorem cell_2 (ns : List Int) (h : Hs) : f__law_cell [.fl (ns.map W.int), .int 2] h = .ok (.int (ns[2]?.getD 0)) h := cell_e ns 2 h
theorem cell_3 (ns : List Int) (h : Hs) : f__law_cell [.fl (ns.map W.int), .int 3] h = .ok (.int (ns[3]?.getD 0)) h := cell_e ns 3 h
theorem cell_4 (ns : List Int) (h : Hs) : f__law_cell [.fl (ns.map W.int), .int 4] h = .ok (.int (ns[4]?.getD 0)) h := cell_e ns 4 h
/-- a slice from n on, as a value -/
theorem sl_lo {d : D} {ρ : Env} {h : Hs} {ws : List W} (n : Nat) (e : d ρ h = .ok (.fl ws) h) (hp : W.pures ws = true) (p : PF.P) (ep : p ρ h = .ok (some (n : Int)) h) : dGz (dSl d p pNo) ρ h = .ok (.fl (ws.drop n)) h := by
  rw [dGz_e, dSl_e, e, Res.bind_ok, ep, Res.bind_ok, pNo_e, Res.bind_ok, oSl_fl, cut_lo]
  refine gc_newL ?_
  have : ∀ (ws : List W) (n : Nat), W.pures ws = true → W.pures (ws.drop n) = true := by
    intro ws
    induction ws with
    | nil => intro n _; simp
    | cons w ws ih =>
      intro n q
      cases n with
      | zero => exact q
      | succ n => rw [pures_cons, Bool.and_eq_true] at q; exact ih n q.2
  exact this ws n hp
theorem sl_hi {d : D} {ρ : Env} {h : Hs} {ws : List W} (n : Nat) (e : d ρ h = .ok (.fl ws) h) (hp : W.pures ws = true) (p : PF.P) (ep : p ρ h = .ok (some (n : Int)) h) : dGz (dSl d pNo p) ρ h = .ok (.fl (ws.take n)) h := by
  rw [dGz_e, dSl_e, e, Res.bind_ok, pNo_e, Res.bind_ok, ep, Res.bind_ok, oSl_fl, cut_hi]
  refine gc_newL ?_
  have : ∀ (ws : List W) (n : Nat), W.pures ws = true → W.pures (ws.take n) = true := by
    intro ws
    induction ws with
    | nil => intro n _; simp
    | cons w ws ih =>
      intro n q
      cases n with
      | zero => rfl
      | succ n => rw [pures_cons, Bool.and_eq_true] at q; rw [List.take_succ_cons, pures_cons, q.1, ih n q.2]; rfl
  exact this ws n hp
theorem sl_lohi {d : D} {ρ : Env} {h : Hs} {ws : List W} (m n : Nat) (e : d ρ h = .ok (.fl ws) h) (hp : W.pures ((ws.take n).drop m) = true) (p q : PF.P) (ep : p ρ h = .ok (some (m : Int)) h) (eq : q ρ h = .ok (some (n : Int)) h) : dGz (dSl d p q) ρ h = .ok (.fl ((ws.take n).drop m)) h := by
  rw [dGz_e, dSl_e, e, Res.bind_ok, ep, Res.bind_ok, eq, Res.bind_ok, oSl_fl, cut_lohi]
  exact gc_newL hp
theorem pAt_of {d : D} {ρ : Env} {h : Hs} {i : Int} (e : d ρ h = .ok (.int i) h) : pAt d ρ h = .ok (some i) h := by rw [pAt_b, e]; rfl
/-- a display, as a value -/
theorem lst_gz {as : As} {ρ : Env} {h : Hs} {ws : List W} (e : as ρ h = .ok ws h) (hl : ws.length ≤ bigL) (hp : W.pures ws = true) : dGz (dLst as) ρ h = .ok (.fl ws) h := by
  rw [dGz_e, dLst_e, e, Res.bind_ok, if_pos hl]
  exact gc_newL hp
/-- a copy, as a value -/
theorem list_gz {d : D} {ρ : Env} {h : Hs} {ws : List W} (e : d ρ h = .ok (.fl ws) h) (hp : W.pures ws = true) : dGz (dCall bList (aCons d aNil)) ρ h = .ok (.fl ws) h := by
  rw [dGz_e]
  simp only [dCall_e, aCons_e, aNil_e, e, Res.bind_ok, bList_fl]
  exact gc_newL hp
theorem ints_pure (is : List Int) : W.pures (is.map W.int) = true := pures_map fun _ _ => rfl
theorem strs_pure (is : List (List Nat)) : W.pures (is.map W.str) = true := pures_map fun _ _ => rfl
theorem sorted_gz {as : As} {ρ : Env} {h : Hs} {ss : List (List Nat)} (e : as ρ h = .ok [.fl (ss.map W.str)] h) (hl : ss.length < 64) : dGz (dCall bSorted as) ρ h = .ok (.fl ((sortS ss).map W.str)) h := by
  rw [dGz_e, dCall_e, e, Res.bind_ok, bSorted_fl ss hl]
  exact gc_newL (strs_pure _)
theorem sortS_len (ss : List (List Nat)) : (sortS ss).length = ss.length := by unfold sortS; rw [List.length_mergeSort]
/-- a remainder as a natural number -/
theorem mod_nat (x m : Int) (hm : 0 < m) : ∃ k : Nat, (k : Int) = x % m ∧ (k : Int) < m := by
  have h1 := Int.emod_nonneg x (show m ≠ 0 by omega)
  have h2 := Int.emod_lt_of_pos x hm
  exact ⟨(x % m).toNat, by omega, by omega⟩
end Law
end PF
namespace PF
namespace Law
abbrev tEnd : List Nat := [101, 110, 100]
abbrev tFork : List Nat := [102, 111, 114, 107]
/-- a tree with whole costs -/
inductive Tr where
  | en (c : Int)
  | fk (c : Int) (t u : Tr)
def trW : Tr → W
  | .en c => .tup [.str tEnd, .int c]
  | .fk c t u => .tup [.str tFork, .int c, trW t, trW u]
def Tr.leaves : Tr → Nat
  | .en _ => 1
  | .fk _ t u => t.leaves + u.leaves
def Tr.high : Tr → Nat
  | .en _ => 0
  | .fk _ t u => 1 + max t.high u.high
def Tr.costs (B : Int) : Tr → Prop
  | .en c => -B ≤ c ∧ c ≤ B
  | .fk c t u => (-B ≤ c ∧ c ≤ B) ∧ t.costs B ∧ u.costs B
theorem Tr.costs_le {B C : Int} (h : B ≤ C) : ∀ t : Tr, t.costs B → t.costs C
  | .en c, q => ⟨by have := q.1; omega, by have := q.2; omega⟩
  | .fk c t u, q => ⟨⟨by have := q.1.1; omega, by have := q.1.2; omega⟩, t.costs_le h q.2.1, u.costs_le h q.2.2⟩
theorem Tr.leaves_pos : ∀ t : Tr, 1 ≤ t.leaves
  | .en _ => Nat.le_refl _
  | .fk _ t u => by have := t.leaves_pos; have := u.leaves_pos; show 1 ≤ t.leaves + u.leaves; omega
theorem trW_pure : ∀ t : Tr, (trW t).pure = true
  | .en _ => rfl
  | .fk _ t u => by rw [trW]; simp [trW_pure t, trW_pure u]
theorem trW_pl : ∀ t : Tr, W.pl (t.high + 1) (trW t) = true
  | .en _ => by simp [trW]
  | .fk _ t u => by
    have h1 := pl_le (t.high + 1) (1 + max t.high u.high) (trW t) (by omega) (trW_pl t)
    have h2 := pl_le (u.high + 1) (1 + max t.high u.high) (trW u) (by omega) (trW_pl u)
    rw [trW, Tr.high]
    simp [h1, h2]
/-- a drawn number -/
theorem pick_e (c : Int) (turn many : Nat) (ht : turn ≤ 1000) (hm : 0 < many) : ∃ r : Nat, r < many ∧ ∀ h : Hs, f__law_pick [.int c, .int turn, .int many] h = .ok (.int r) h := by
  obtain ⟨x, hx⟩ : ∃ x, x = (c % 2147483647 + 7) * (48271 + 7919 * (turn : Int)) % 2147483647 := ⟨_, rfl⟩
  obtain ⟨y, hy⟩ : ∃ y, y = x * 16807 % 2147483647 / 8 := ⟨_, rfl⟩
  obtain ⟨r, hr, hr2⟩ : ∃ r : Nat, (r : Int) = y % many ∧ r < many := ⟨(y % many).toNat, by
    have := Int.emod_nonneg y (show (many : Int) ≠ 0 by omega)
    omega, by
    have := Int.emod_lt_of_pos y (show (0 : Int) < many by omega)
    omega⟩
  refine ⟨r, hr2, fun h => ?_⟩
  rw [f__law_pick_e]
  have x0 := Int.emod_nonneg ((c % 2147483647 + 7) * (48271 + 7919 * (turn : Int))) (show (2147483647 : Int) ≠ 0 by omega)
  have x1 := Int.emod_lt_of_pos ((c % 2147483647 + 7) * (48271 + 7919 * (turn : Int))) (show (0 : Int) < 2147483647 by omega)
  have a1 : ∀ (z : Int) (h : Hs), oMod (.int z) (.int 2147483647) h = .ok (.int (z % 2147483647)) h := fun _ _ => oModP (by omega)
  have a2 : mulOK 7919 (turn : Int) := mulOK_of (a := 20) (b := 20) (by decide) (by omega) (by omega)
  have a3 : mulOK (c % 2147483647 + 7) (48271 + 7919 * (turn : Int)) := mulOK_of (a := 40) (b := 40) (by omega) (by omega) (by omega)
  have a4 : mulOK ((c % 2147483647 + 7) * (48271 + 7919 * (turn : Int)) % 2147483647) 16807 := mulOK_of (a := 40) (b := 40) (by omega) (by decide) (by omega)
  have a5 : ∀ (z : Int) (h : Hs), oDiv (.int z) (.int 8) h = .ok (.int (z / 8)) h := fun _ _ => oDivS (by omega) (by omega)
  have a6 : ∀ h, oMod (.int ((c % 2147483647 + 7) * (48271 + 7919 * (turn : Int)) % 2147483647 * 16807 % 2147483647 / 8)) (.int many) h = .ok (.int r) h := fun h => by
    rw [oModP (by omega), hr, hy, hx]
  simp [b__law_pick, a1, oMul_i a2, oMul_i a3, oMul_i a4, a5, a6]
theorem worth_e (c : Int) (way : Nat) : ∃ w : Int, (-(10 ^ 30) ≤ w ∧ w ≤ 10 ^ 30) ∧ ∀ h : Hs, f__law_worth [.int c, .int way] h = .ok (.int w) h := by
  obtain ⟨r, hr, er⟩ := pick_e c 5 7 (by omega) (by omega)
  have er : ∀ h : Hs, f__law_pick [.int c, .int 5, .int 7] h = .ok (.int r) h := er
  have p29 : powOK 10 29 := by decide
  have p30 : powOK 10 30 := by decide
  have m5 : mulOK 5 100000000000000000000000000000 := by decide
  have a1 : ∀ (z : Int) (h : Hs), oMod (.int z) (.int 1000) h = .ok (.int (z % 1000)) h := fun _ _ => oModP (by omega)
  have a2 : ∀ (z : Int) (h : Hs), oMod (.int z) (.int 1000000000000000000000000000000) h = .ok (.int (z % 1000000000000000000000000000000)) h := fun _ _ => oModP (by omega)
  have a3 : ∀ (z : Int) (h : Hs), oDiv (.int z) (.int 2) h = .ok (.int (z / 2)) h := fun _ _ => oDivS (by omega) (by omega)
  by_cases h0 : (way : Int) / 2 = 0
  · refine ⟨(r : Int) - 1, by omega, fun h => ?_⟩
    rw [f__law_worth_e]
    simp [b__law_worth, a3, h0, er]
  · by_cases h1 : (way : Int) / 2 = 1
    · refine ⟨c % 1000, by omega, fun h => ?_⟩
      rw [f__law_worth_e]
      simp [b__law_worth, a1, a3, h1]
    · refine ⟨c % 1000000000000000000000000000000 - 500000000000000000000000000000, by omega, fun h => ?_⟩
      rw [f__law_worth_e]
      simp [b__law_worth, a2, a3, h0, h1, oPow_i p29, oPow_i p30, oMul_i m5]
/-- a tree on the pile: its ends' sum, its ends' number -/
structure It where
  t : Tr
  s : Int
  l : Nat
def itW (i : It) : W := .tup [trW i.t, .int i.s, .int i.l]
theorem itW_pure (i : It) : (itW i).pure = true := by simp [itW, trW_pure]
structure ItOk (i : It) : Prop where
  l : i.l = i.t.leaves
  s : -(i.l * 10 ^ 30) ≤ i.s ∧ i.s ≤ i.l * 10 ^ 30
  c : i.t.costs ((i.l + 1) * 10 ^ 30)
  h : i.t.high < i.l
theorem joined_e (c : Int) (a b : It) (ha : ItOk a) (hb : ItOk b) (hl : a.l + b.l ≤ 64) (way : Nat) : ∃ r : It, ItOk r ∧ r.l = a.l + b.l ∧ ∀ h : Hs, f__law_joined [.int c, itW a, itW b, .int way] h = .ok (itW r) h := by
  obtain ⟨p3, h3, e3⟩ := pick_e c 3 5 (by omega) (by omega)
  obtain ⟨p6, h6, e6⟩ := pick_e c 6 9 (by omega) (by omega)
  obtain ⟨p4, h4, e4⟩ := pick_e c 4 2 (by omega) (by omega)
  have e3 : ∀ h : Hs, f__law_pick [.int c, .int 3, .int 5] h = .ok (.int p3) h := e3
  have e6 : ∀ h : Hs, f__law_pick [.int c, .int 6, .int 9] h = .ok (.int p6) h := e6
  have e4 : ∀ h : Hs, f__law_pick [.int c, .int 4, .int 2] h = .ok (.int p4) h := e4
  obtain ⟨w, hw, ew⟩ := worth_e (c / 2 + 5) way
  have pa := a.t.leaves_pos
  have pb := b.t.leaves_pos
  have la := ha.l
  have lb := hb.l
  obtain ⟨v, hv, hvb⟩ : ∃ v : Int, v = (if (way : Int) % 2 = 1 then a.s + b.s + (if w < 0 then -w else w) * (1 - 2 * ((p6 : Int) / 8)) else a.s + b.s + ((p3 : Int) - 1) * ((a.l : Int) + b.l - 1)) ∧ (-((a.l + b.l + 1) * 10 ^ 30) ≤ v ∧ v ≤ (a.l + b.l + 1) * 10 ^ 30) := by
    refine ⟨_, rfl, ?_⟩
    have s1 := ha.s
    have s2 := hb.s
    split
    · have : (p6 : Int) / 8 = 0 ∨ (p6 : Int) / 8 = 1 := by omega
      rcases this with z | z <;> rw [z] <;> split <;> omega
    · have q1 : -(64 : Int) ≤ ((p3 : Int) - 1) * ((a.l : Int) + b.l - 1) := by
        have : (-1 : Int) * ((a.l : Int) + b.l - 1) ≤ ((p3 : Int) - 1) * ((a.l : Int) + b.l - 1) := Int.mul_le_mul_of_nonneg_right (by omega) (by omega)
        omega
      have q2 : ((p3 : Int) - 1) * ((a.l : Int) + b.l - 1) ≤ 4 * 64 := Int.mul_le_mul (by omega) (by omega) (by omega) (by omega)
      omega
  have a1 : ∀ (z : Int) (h : Hs), oMod (.int z) (.int 2) h = .ok (.int (z % 2)) h := fun _ _ => oModP (by omega)
  have a2 : ∀ (z : Int) (h : Hs), oDiv (.int z) (.int 2) h = .ok (.int (z / 2)) h := fun _ _ => oDivS (by omega) (by omega)
  have a3 : ∀ (z : Int) (h : Hs), oDiv (.int z) (.int 8) h = .ok (.int (z / 8)) h := fun _ _ => oDivS (by omega) (by omega)
  have m1 : mulOK ((p3 : Int) - 1) ((a.l : Int) + b.l - 1) := mulOK_of (a := 10) (b := 10) (by omega) (by omega) (by omega)
  have m2 : mulOK 2 ((p6 : Int) / 8) := mulOK_of (a := 10) (b := 10) (by decide) (by omega) (by omega)
  have m3 : mulOK (if w < 0 then -w else w) (1 - 2 * ((p6 : Int) / 8)) := mulOK_of (a := 101) (b := 10) (by split <;> omega) (by omega) (by omega)
  obtain ⟨r, hr⟩ : ∃ r : It, r = ⟨if p4 = 0 then .fk v a.t b.t else .fk v b.t a.t, a.s + b.s, a.l + b.l⟩ := ⟨_, rfl⟩
  refine ⟨r, ?_, by rw [hr], fun h => ?_⟩
  · have s1 := ha.s
    have s2 := hb.s
    have ca := a.t.costs_le (C := ((a.l + b.l : Nat) + 1) * 10 ^ 30) (by omega) ha.c
    have cb := b.t.costs_le (C := ((a.l + b.l : Nat) + 1) * 10 ^ 30) (by omega) hb.c
    have h1 := ha.h
    have h2 := hb.h
    subst hr
    by_cases z : p4 = 0
    · rw [if_pos z]
      exact ⟨by dsimp only [Tr.leaves]; omega, by dsimp only; omega, by dsimp only; exact ⟨by omega, ca, cb⟩, by dsimp only [Tr.high]; omega⟩
    · rw [if_neg z]
      exact ⟨by dsimp only [Tr.leaves]; omega, by dsimp only; omega, by dsimp only; exact ⟨by omega, cb, ca⟩, by dsimp only [Tr.high]; omega⟩
  · rw [f__law_joined_e]
    unfold b__law_joined
    obtain ⟨A0, hA0⟩ : ∃ x, x = trW a.t := ⟨_, rfl⟩
    obtain ⟨B0, hB0⟩ : ∃ x, x = trW b.t := ⟨_, rfl⟩
    have iA : itW a = .tup [A0, .int a.s, .int a.l] := by rw [hA0]; rfl
    have iB : itW b = .tup [B0, .int b.s, .int b.l] := by rw [hB0]; rfl
    have iR : itW r = .tup [.tup [.str tFork, .int v, if p4 = 0 then A0 else B0, if p4 = 0 then B0 else A0], .int (a.s + b.s), .int ((a.l : Int) + b.l)] := by
      rw [hr, hA0, hB0]
      by_cases z : p4 = 0 <;> simp [itW, z, trW]
    rw [iR, iA, iB]
    by_cases hw2 : (way : Int) % 2 = 1
    · rw [if_pos hw2] at hv
      by_cases z : p4 = 0
      · simp [a1, a2, a3, e3, e4, e6, ew, oMul_i m1, oMul_i m2, oMul_i m3, hw2, z, hv]
      · simp [a1, a2, a3, e3, e4, e6, ew, oMul_i m1, oMul_i m2, oMul_i m3, hw2, z, hv]
    · rw [if_neg hw2] at hv
      by_cases z : p4 = 0
      · simp [a1, a2, a3, e3, e4, e6, ew, oMul_i m1, oMul_i m2, oMul_i m3, hw2, z, hv]
      · simp [a1, a2, a3, e3, e4, e6, ew, oMul_i m1, oMul_i m2, oMul_i m3, hw2, z, hv]
def pileL (ps : List It) : Nat := (ps.map It.l).sum
theorem pileL_end (ps : List It) (p : It) : pileL (ps ++ [p]) = pileL ps + p.l := by simp [pileL]
theorem pileL_len : ∀ ps : List It, (∀ p, p ∈ ps → ItOk p) → ps.length ≤ pileL ps
  | [], _ => Nat.zero_le _
  | p :: ps, ok => by
    have h1 := pileL_len ps fun q hq => ok q (List.mem_cons_of_mem _ hq)
    have h2 := (ok p (List.mem_cons_self ..)).l
    have h3 := p.t.leaves_pos
    have : pileL (p :: ps) = p.l + pileL ps := by simp [pileL]
    rw [List.length_cons]
    omega
theorem two_last {α : Type} (ps : List α) (h : 1 < ps.length) : ∃ qs a b, ps = qs ++ [a] ++ [b] := by
  have h1 : ps ≠ [] := by intro z; rw [z] at h; simp at h
  refine ⟨ps.dropLast.dropLast, ps.dropLast.getLast (by intro z; have := congrArg List.length z; simp at this; omega), ps.getLast h1, ?_⟩
  rw [List.dropLast_concat_getLast, List.dropLast_concat_getLast]
/-- the two topmost are joined -/
theorem join_top (qs : List It) (a b : It) (oa : ItOk a) (ob : ItOk b) (hl : a.l + b.l ≤ 64) (c : Int) (way : Nat) (h : Hs) : ∃ r : It, ItOk r ∧ r.l = a.l + b.l ∧
    mPop (.ref h.length) [] (h ++ [.lst ((qs ++ [a] ++ [b]).map itW)]) = .ok (itW b) (h ++ [.lst ((qs ++ [a]).map itW)]) ∧
    oIx (.ref h.length) (.int (-1)) (h ++ [.lst ((qs ++ [a]).map itW)]) = .ok (itW a) (h ++ [.lst ((qs ++ [a]).map itW)]) ∧
    (∀ h, f__law_joined [.int c, itW a, itW b, .int way] h = .ok (itW r) h) ∧
    stL (.ref h.length) (.int (-1)) (itW r) (h ++ [.lst ((qs ++ [a]).map itW)]) = some (h ++ [.lst ((qs ++ [r]).map itW)]) := by
  obtain ⟨r, h1, h2, h3⟩ := joined_e c a b oa ob hl way
  refine ⟨r, h1, h2, ?_, ?_, h3, ?_⟩
  · rw [List.map_append (l₁ := qs ++ [a])]; exact mPop_end
  · rw [List.map_append]; exact ix_end
  · rw [List.map_append, List.map_append]; exact st_end
theorem tree_e (cs : List Int) (hc : cs ≠ []) (way : Nat) (h : Hs) : ∃ t : Tr, t.leaves ≤ 21 ∧ t.high < t.leaves ∧ t.costs (22 * 10 ^ 30) ∧ f__law_tree [.fl (cs.map W.int), .int way] h = .ok (trW t) h := by
  rw [f__law_tree_e]
  unfold b__law_tree
  obtain ⟨c0, cs', hcs⟩ : ∃ c0 cs', cs = c0 :: cs' := by
    cases cs with
    | nil => exact absurd rfl hc
    | cons a b => exact ⟨a, b, rfl⟩
  obtain ⟨w6, hw6⟩ : ∃ w6 : Nat, (w6 : Int) = (way : Int) % 6 := ⟨(way % 6 : Nat), by omega⟩
  have am : ∀ (h : Hs), oMod (.int (way : Int)) (.int 6) h = .ok (.int w6) h := fun h => by rw [oModP (by omega), hw6]
  have ad : ∀ (h : Hs), oDiv (.int (way : Int)) (.int 6) h = .ok (.int ((way : Int) / 6)) h := fun _ => oDivS (by omega) (by omega)
  have c0i : ∀ h, oIx (.fl (cs.map W.int)) (.int 0) h = .ok (.int c0) h := fun h => by rw [hcs]; exact oIx_f0
  obtain ⟨ds, hds⟩ : ∃ ds, ds = cs.take 21 := ⟨_, rfl⟩
  have lds : ds.length ≤ 21 := by rw [hds, List.length_take]; omega
  have dne : ds ≠ [] := by rw [hds, hcs]; simp
  obtain ⟨C, hC⟩ : ∃ C, C = W.fl (cs.map W.int) := ⟨_, rfl⟩
  rw [← hC] at c0i ⊢
  -- the cells, one by one
  obtain ⟨ρ', h', e, ps, a3, a4, a5, a6, a7, l1, ok1, ne1, rfl, rfl⟩ := forL_all (g := [(.fl (ds.map W.int), ds.map W.int)]) (tg := .t [.n 3, .n 4]) (b := L2__law_tree) (fun i ρ h' => ∃ (ps : List It) (a3 a4 a5 a6 a7 : Option W), pileL ps = i ∧ (∀ p, p ∈ ps → ItOk p) ∧ (0 < i → ps ≠ []) ∧ h' = h ++ [.lst (ps.map itW)] ∧ ρ = [some C, some (.int way), some (.ref h.length), a3, a4, a5, a6, a7])
    (enumW 0 (ds.map W.int)) [some C, some (.int way), some (.ref h.length), none, none, none, none, none] (h ++ [.lst []]) ⟨[], none, none, none, none, none, rfl, by simp, by simp, rfl, rfl⟩ (fun _ _ _ _ => stays_fl) (by
    rintro i w ρ h' hw ⟨ps, a3, a4, a5, a6, a7, l1, ok1, ne1, rfl, rfl⟩
    rw [enumW_at, List.getElem?_map] at hw
    obtain ⟨w', hw', rfl⟩ := Option.map_eq_some_iff.mp hw
    obtain ⟨c, hci, rfl⟩ := Option.map_eq_some_iff.mp hw'
    have hi : i < ds.length := (List.getElem?_eq_some_iff.mp hci).1
    refine ⟨[some C, some (.int way), some (.ref h.length), some (.int ((0 + i : Nat) : Int)), some (.int c), a5, a6, a7], by simp, .inl ?_⟩
    obtain ⟨w, hw, ew⟩ := worth_e c w6
    obtain ⟨p1, hp1, ep⟩ := pick_e c 1 3 (by omega) (by omega)
    have ep : ∀ h : Hs, f__law_pick [.int c, .int 1, .int 3] h = .ok (.int p1) h := ep
    obtain ⟨it, hit⟩ : ∃ it : It, it = ⟨.en w, w, 1⟩ := ⟨_, rfl⟩
    have oit : ItOk it := by
      rw [hit]
      exact ⟨rfl, by dsimp only; omega, ⟨by dsimp only; omega, by dsimp only; omega⟩, by show 0 < 1; omega⟩
    have iW : itW it = .tup [.tup [.str tEnd, .int w], .int w, .int 1] := by rw [hit]; rfl
    have lp := pileL_len ps ok1
    have hb' : (ps.map itW).length < bigL := by rw [List.length_map]; unfold bigL; omega
    have app := mApp_end (h := h) (w := itW it) hb'
    rw [← List.map_singleton (f := itW), ← List.map_append] at app
    rw [List.map_singleton, iW] at app
    unfold L2__law_tree
    rw [seq_nx (ρ1 := [some C, some (.int way), some (.ref h.length), some (.int ((0 + i : Nat) : Int)), some (.int c), some (.int w), a6, a7]) (h1 := h ++ [.lst (ps.map itW)]) (by
      simp only [sAsg_e, dCall_e, aCons_e, aNil_e, dBin_e, dV_4, dV_1, dC_e, Res.bind_ok, am, ew]; rfl)]
    rw [seq_nx (ρ1 := [some C, some (.int way), some (.ref h.length), some (.int ((0 + i : Nat) : Int)), some (.int c), some (.int w), a6, a7]) (h1 := h ++ [.lst ((ps ++ [it]).map itW)]) (by
      simp only [sExp_e, dMeth_e, dV_2, Res.bind_ok, kd_end, if_true, aCons_e, aNil_e, dTup_e, dV_5, dC_e, List.length_cons, List.length_nil, Nat.zero_add, Nat.reduceAdd, big_lit2, big_lit3, app, onR_ok])]
    rw [seq_nx (ρ1 := [some C, some (.int way), some (.ref h.length), some (.int ((0 + i : Nat) : Int)), some (.int c), some (.int w), some (.int p1), a7]) (h1 := h ++ [.lst ((ps ++ [it]).map itW)]) (by
      simp only [sAsg_e, dCall_e, aCons_e, aNil_e, dV_4, dC_e, Res.bind_ok, ep]; rfl)]
    obtain ⟨f, hf, ef⟩ : ∃ f : Int, f ≤ 2 ∧ sIf (tVal (dBin oEq (dBin oDiv (dV 1) (dC (.int 6))) (dC (.int 1)))) (sAsg (dC (.int 1)) (.n 6)) (sNx) [some C, some (.int way), some (.ref h.length), some (.int ((0 + i : Nat) : Int)), some (.int c), some (.int w), some (.int p1), a7] (h ++ [.lst ((ps ++ [it]).map itW)]) =
        .nx [some C, some (.int way), some (.ref h.length), some (.int ((0 + i : Nat) : Int)), some (.int c), some (.int w), some (.int f), a7] (h ++ [.lst ((ps ++ [it]).map itW)]) := by
      by_cases z : (way : Int) / 6 = 1
      · exact ⟨1, by omega, by simp [ad, z]⟩
      · exact ⟨p1, by omega, by simp [ad, z]⟩
    rw [seq_nx ef]
    obtain ⟨⟨qs, g⟩, ρ2, h2, e2, ⟨b7, q1, q2, q3, rfl, rfl⟩, _⟩ := while_ex (t := PF.tAnd (tVal (dBin oGt (dV 6) (dC (.int 0)))) (tVal (dBin oGt (dCall bLen (aCons (dV 2) (aNil))) (dC (.int 1))))) (b := L1__law_tree)
      (fun (s : List It × Int) ρ h' => ∃ b7 : Option W, pileL s.1 = i + 1 ∧ (∀ p, p ∈ s.1 → ItOk p) ∧ s.1 ≠ [] ∧ h' = h ++ [.lst (s.1.map itW)] ∧ ρ = [some C, some (.int way), some (.ref h.length), some (.int ((0 + i : Nat) : Int)), some (.int c), some (.int w), some (.int s.2), b7])
      (fun s => s.2.toNat) (fun s => decide (0 < s.2) && decide (1 < s.1.length)) (by
        rintro ⟨qs, g⟩ ρ h' ⟨b7, q1, q2, q3, rfl, rfl⟩
        by_cases z : 0 < g
        · simp [z, len_end]
          omega
        · simp [z, len_end]) (by
        rintro ⟨qs, g⟩ ρ h' ⟨b7, q1, q2, q3, rfl, rfl⟩ hc
        rw [Bool.and_eq_true, decide_eq_true_eq, decide_eq_true_eq] at hc
        obtain ⟨hg, hl⟩ := hc
        obtain ⟨ts, a, b, rfl⟩ := two_last qs hl
        have oa := q2 a (by simp)
        have ob := q2 b (by simp)
        rw [pileL_end, pileL_end] at q1
        obtain ⟨r, r1, r2, r3, r4, r5, r6⟩ := join_top ts a b oa ob (by omega) (c + g) w6 h
        have kd : kdOf (.ref h.length) (h ++ [.lst ((ts ++ [a] ++ [b]).map itW)]) = some .lst := kd_end _ _
        refine ⟨(ts ++ [r], g - 1), _, _, .inl ?_, ⟨some (itW b), ?_, ?_, by simp, rfl, rfl⟩, by dsimp only; omega⟩
        · unfold L1__law_tree
          rw [seq_nx (ρ1 := [some C, some (.int way), some (.ref h.length), some (.int ((0 + i : Nat) : Int)), some (.int c), some (.int w), some (.int g), some (itW b)]) (h1 := h ++ [.lst ((ts ++ [a]).map itW)]) (by
            simp only [sAsg_e, dMeth_e, dV_2, Res.bind_ok, kd, if_true, aNil_e, r3]; rfl)]
          rw [seq_nx (ρ1 := [some C, some (.int way), some (.ref h.length), some (.int ((0 + i : Nat) : Int)), some (.int c), some (.int w), some (.int g), some (itW b)]) (h1 := h ++ [.lst ((ts ++ [r]).map itW)]) (by
            simp only [sSub_e, dCall_e, aCons_e, aNil_e, dBin_e, dUn_e, dV_4, dV_6, dV_2, dV_7, dV_1, dC_e, Res.bind_ok, oAdd_i, oNeg_i, r4, am, r5, onR_ok, r6])]
          simp [sAug]
        · dsimp only
          rw [pileL_end, r2]
          omega
        · intro p hp
          rcases List.mem_append.mp hp with z | z
          · exact q2 p (List.mem_append_left _ (List.mem_append_left _ z))
          · rw [List.mem_singleton.mp z]; exact r1)
      (ps ++ [it], f) [some C, some (.int way), some (.ref h.length), some (.int ((0 + i : Nat) : Int)), some (.int c), some (.int w), some (.int f), a7] (h ++ [.lst ((ps ++ [it]).map itW)]) ⟨a7, by dsimp only; rw [pileL_end, l1, hit], fun p hp => by
        rcases List.mem_append.mp hp with z | z
        · exact ok1 p z
        · rw [List.mem_singleton.mp z]; exact oit, by simp, rfl, rfl⟩ (by
        have : f.toNat < 2 ^ 2 := by omega
        exact Nat.lt_of_lt_of_le this (Nat.pow_le_pow_right (by omega) (by omega)))
    exact ⟨_, _, e2, qs, _, _, _, _, _, q1, q2, fun _ => q3, rfl, rfl⟩)
  rw [enumW_length, List.length_map] at l1 ne1
  have ne1 := ne1 (by cases ds with | nil => exact absurd rfl dne | cons _ _ => simp)
  -- all are joined
  obtain ⟨qs, ρ2, h2, e2, ⟨b7, q1, q2, q3, rfl, rfl⟩, hend⟩ := while_ex (t := tVal (dBin oGt (dCall bLen (aCons (dV 2) (aNil))) (dC (.int 1)))) (b := L3__law_tree)
    (fun (s : List It) ρ h' => ∃ b7 : Option W, pileL s ≤ 21 ∧ (∀ p, p ∈ s → ItOk p) ∧ s ≠ [] ∧ h' = h ++ [.lst (s.map itW)] ∧ ρ = [some C, some (.int way), some (.ref h.length), a3, a4, a5, a6, b7])
    (fun s => s.length) (fun s => decide (1 < s.length)) (by
      rintro qs ρ h' ⟨b7, q1, q2, q3, rfl, rfl⟩
      simp [len_end]
      omega) (by
      rintro qs ρ h' ⟨b7, q1, q2, q3, rfl, rfl⟩ hc
      rw [decide_eq_true_eq] at hc
      obtain ⟨ts, a, b, rfl⟩ := two_last qs hc
      have oa := q2 a (by simp)
      have ob := q2 b (by simp)
      rw [pileL_end, pileL_end] at q1
      obtain ⟨r, r1, r2, r3, r4, r5, r6⟩ := join_top ts a b oa ob (by omega) (c0 + ((ts ++ [a]).map itW).length) w6 h
      have kd : kdOf (.ref h.length) (h ++ [.lst ((ts ++ [a] ++ [b]).map itW)]) = some .lst := kd_end _ _
      have le : bLen [.ref h.length] (h ++ [.lst ((ts ++ [a]).map itW)]) = .ok (.int ((ts ++ [a]).map itW).length) (h ++ [.lst ((ts ++ [a]).map itW)]) := len_end
      refine ⟨ts ++ [r], _, _, .inl ?_, ⟨some (itW b), ?_, ?_, by simp, rfl, rfl⟩, by simp⟩
      · unfold L3__law_tree
        rw [seq_nx (ρ1 := [some C, some (.int way), some (.ref h.length), a3, a4, a5, a6, some (itW b)]) (h1 := h ++ [.lst ((ts ++ [a]).map itW)]) (by
          simp only [sAsg_e, dMeth_e, dV_2, Res.bind_ok, kd, if_true, aNil_e, r3]; rfl)]
        simp only [sSub_e, dCall_e, aCons_e, aNil_e, dBin_e, dUn_e, dV_0, dV_2, dV_7, dV_1, dC_e, Res.bind_ok, c0i, le, oAdd_i, oNeg_i, r4, am, r5, onR_ok, r6]
      · rw [pileL_end, r2]
        omega
      · intro p hp
        rcases List.mem_append.mp hp with z | z
        · exact q2 p (List.mem_append_left _ (List.mem_append_left _ z))
        · rw [List.mem_singleton.mp z]; exact r1)
    ps [some C, some (.int way), some (.ref h.length), a3, a4, a5, a6, a7] (h ++ [.lst (ps.map itW)]) ⟨a7, by omega, ok1, ne1, rfl, rfl⟩ (by
      have := pileL_len ps ok1
      exact Nat.lt_of_lt_of_le (m := 2 ^ 5) (by omega) (Nat.pow_le_pow_right (by omega) (by omega)))
  obtain ⟨p, hp⟩ : ∃ p, qs = [p] := by
    have : ¬ 1 < qs.length := by simpa using hend
    match qs, q3 with
    | [p], _ => exact ⟨p, rfl⟩
    | _ :: _ :: _, _ => simp at this
  subst hp
  have op := q2 p (by simp)
  have lp : p.l ≤ 21 := by simpa [pileL] using q1
  obtain ⟨p9, _, e9⟩ := pick_e c0 9 4 (by omega) (by omega)
  have e9 : ∀ h : Hs, f__law_pick [.int c0, .int 9, .int 4] h = .ok (.int p9) h := e9
  have g0 : ∀ p : It, oIx (.ref h.length) (.int 0) (h ++ [.lst ([p].map itW)]) = .ok (itW p) (h ++ [.lst ([p].map itW)]) := fun p => oIx_ref (k := 0) (ws := [p].map itW) (by simp) rfl
  have i2 : ∀ (p : It) h, oIx (itW p) (.int 2) h = .ok (.int p.l) h := fun p h => oIx_t2
  have i0 : ∀ (p : It) h, oIx (itW p) (.int 0) h = .ok (trW p.t) h := fun p h => oIx_t0
  obtain ⟨f, of, lf, ef⟩ : ∃ f : It, ItOk f ∧ f.l ≤ 21 ∧ sIf (PF.tAnd (tVal (dBin oEq (dCall f__law_pick (aCons (dBin oIx (dV 0) (dC (.int 0))) (aCons (dC (.int 9)) (aCons (dC (.int 4)) (aNil))))) (dC (.int 0)))) (tVal (dBin oLt (dBin oIx (dBin oIx (dV 2) (dC (.int 0))) (dC (.int 2))) (dC (.int 11))))) (sSub (dCall f__law_joined (aCons (dBin oIx (dV 0) (dC (.int 0))) (aCons (dBin oIx (dV 2) (dC (.int 0))) (aCons (dBin oIx (dV 2) (dC (.int 0))) (aCons (dBin oMod (dV 1) (dC (.int 6))) (aNil)))))) (dV 2) (dC (.int 0)) stL) (sNx)
      [some C, some (.int way), some (.ref h.length), a3, a4, a5, a6, b7] (h ++ [.lst ([p].map itW)]) = .nx [some C, some (.int way), some (.ref h.length), a3, a4, a5, a6, b7] (h ++ [.lst ([f].map itW)]) := by
    by_cases z1 : p9 = 0
    · by_cases z2 : p.l < 11
      · obtain ⟨r, r1, r2, r3⟩ := joined_e c0 p p op op (by omega) w6
        have st : stL (.ref h.length) (.int 0) (itW r) (h ++ [.lst ([p].map itW)]) = some (h ++ [.lst ([r].map itW)]) := by
          rw [stL_0 (a := itW p) (ws := []) (by simp), set_end]
          rfl
        refine ⟨r, r1, by omega, ?_⟩
        have t1 : (p.l : Int) < 11 := by omega
        simp only [sIf_e, tAnd_e, tVal_e, dBin_e, dCall_e, aCons_e, aNil_e, dV_0, dV_1, dV_2, dC_e, Res.bind_ok, c0i, e9, z1, Int.natCast_zero, oEq_i, asB_b, g0, i2, oLt_i, decide_eq_true t1, onR_ok, if_true, sSub_e, am, r3, st, beq_self_eq_true]
      · refine ⟨p, op, lp, ?_⟩
        have t1 : ¬ (p.l : Int) < 11 := by omega
        simp only [sIf_e, tAnd_e, tVal_e, dBin_e, dCall_e, aCons_e, aNil_e, dV_0, dV_1, dV_2, dC_e, Res.bind_ok, c0i, e9, z1, Int.natCast_zero, oEq_i, asB_b, g0, i2, oLt_i, decide_eq_false t1, onR_ok, if_true, beq_self_eq_true]
        rfl
    · refine ⟨p, op, lp, ?_⟩
      have t1 : ((p9 : Int) == 0) = false := by simp; omega
      simp only [sIf_e, tAnd_e, tVal_e, dBin_e, dCall_e, aCons_e, aNil_e, dV_0, dC_e, Res.bind_ok, c0i, e9, oEq_i, t1, asB_b, onR_ok]
      rfl
  refine ⟨f.t, by rw [← of.l]; exact lf, by rw [← of.l]; exact of.h, f.t.costs_le (by omega) of.c, ?_⟩
  rw [seq_nx (ρ1 := [some C, some (.int way), some (.ref h.length), none, none, none, none, none]) (h1 := h ++ [.lst []]) (by simp)]
  have sl := sl_hi (d := dV 0) (ρ := [some C, some (.int way), some (.ref h.length), none, none, none, none, none]) (h := h ++ [.lst []]) (ws := cs.map W.int) 21 (by rw [hC]; rfl) (ints_pure cs) (pAt (dC (.int 21))) rfl
  rw [← List.map_take, ← hds] at sl
  rw [seq_nx (by rw [sFor_e, iEnum_fl sl, onR_ok]; exact e)]
  rw [seq_nx e2]
  rw [seq_nx ef]
  simp only [sRet_e, dBin_e, dV_2, dC_e, Res.bind_ok, g0, i0, onR_ok, endF_ret]
  exact gc_pure (trW_pure _)
end Law
end PF
namespace PF
/-- the bag of two numbers at b -/
def bag2 (h : Hs) (b : Nat) (x y : Int) : Hs := h.set b (.lst [.int x, .int y])
section
variable {h e : Hs} {b : Nat} {x y u v : Int}
@[simp] theorem bag2_len : (bag2 h b x y).length = h.length := by simp [bag2]
theorem bag2_get (hb : b < h.length) : (bag2 h b x y)[b]? = some (.lst [.int x, .int y]) := by simp [bag2, hb]
theorem bag2_bag2 : bag2 (bag2 h b x y) b u v = bag2 h b u v := by simp [bag2]
theorem bag2_tame : tame h (bag2 h b x y) = true := tame_set rfl (tame_self' h)
theorem bag2_self (e : h[b]? = some (.lst [.int x, .int y])) : bag2 h b x y = h := by
  obtain ⟨h1, h2⟩ := List.getElem?_eq_some_iff.mp e
  unfold bag2
  rw [← h2, List.set_getElem_self]
theorem bag2_take : (bag2 h b x y ++ e).take h.length = bag2 h b x y := by
  have := List.take_left (l₁ := bag2 h b x y) (l₂ := e)
  rwa [bag2_len] at this
theorem gc_bag2 {w : W} (hw : w.pure = true) : gc h (.ok w (bag2 h b x y)) = .ok w (bag2 h b x y) := by
  have t := gc_pureT hw (bag2_tame (h := h) (b := b) (x := x) (y := y))
  rw [t]
  congr 1
  rw [← bag2_len (h := h) (b := b) (x := x) (y := y), List.take_length]
theorem gc_bag2L {i : Nat} {ws : List W} (hi : h.length ≤ i) (ei : e[i - h.length]? = some (.lst ws)) (hp : W.pures ws = true) : gc h (.ok (.ref i) (bag2 h b x y ++ e)) = .ok (.fl ws) (bag2 h b x y) := by
  rw [gc_lstT (tame_push bag2_tame e) hi (by rw [List.getElem?_append_right (by simp [hi]), bag2_len]; exact ei) hp, bag2_take]
end
namespace Law
abbrev sY : List Nat := [121]
abbrev sN : List Nat := [110]
/-- a pruning's places, those with n first -/
inductive Cut : Tr → List Nat → List (List Nat) → Prop
  | here (t : Tr) (p : List Nat) : Cut t p [p]
  | split {c : Int} {t u : Tr} {p : List Nat} {A B : List (List Nat)} : Cut t (p ++ sY) A → Cut u (p ++ sN) B → Cut (.fk c t u) p (B ++ A)
theorem Cut.len : ∀ {t : Tr} {p : List Nat} {L : List (List Nat)}, Cut t p L → 1 ≤ L.length ∧ L.length ≤ t.leaves
  | t, _, _, .here _ _ => ⟨Nat.le_refl _, t.leaves_pos⟩
  | _, _, _, .split a b => by
    have := a.len
    have := b.len
    rw [List.length_append]
    show _ ∧ _ ≤ _ + _
    omega
theorem oAdd_flfl {a b : List W} {h : Hs} (hb : a.length + b.length ≤ bigL) : oAdd (.fl a) (.fl b) h = newL (a ++ b) h := by simp [oAdd, hb]
theorem oAdd_str {a b : List Nat} {h : Hs} (hb : a.length + b.length ≤ bigL) : oAdd (.str a) (.str b) h = .ok (.str (a ++ b)) h := by simp [oAdd, hb]
end Law
end PF
namespace PF
namespace Law
/-- a pruning's places, and the forks inside it -/
inductive CutF : Tr → List Nat → List (List Nat) → List (List Nat) → Prop
  | here (t : Tr) (p : List Nat) : CutF t p [p] []
  | split {c : Int} {t u : Tr} {p : List Nat} {A B F G : List (List Nat)} : CutF t (p ++ sY) A F → CutF u (p ++ sN) B G → CutF (.fk c t u) p (B ++ A) (p :: (G ++ F))
theorem Cut.toF : ∀ {t : Tr} {p : List Nat} {L : List (List Nat)}, Cut t p L → ∃ F, CutF t p L F
  | _, _, _, .here t p => ⟨_, .here t p⟩
  | _, _, _, .split a b => by
    obtain ⟨F, f⟩ := a.toF
    obtain ⟨G, g⟩ := b.toF
    exact ⟨_, .split f g⟩
theorem CutF.any : ∀ {t : Tr} {p : List Nat} {L F : List (List Nat)}, CutF t p L F → ∃ q, q ∈ L
  | _, _, _, _, .here t p => ⟨p, List.mem_singleton.mpr rfl⟩
  | _, _, _, _, .split a b => by
    obtain ⟨q, h⟩ := a.any
    exact ⟨q, List.mem_append.mpr (.inr h)⟩
theorem CutF.pre : ∀ {t : Tr} {p : List Nat} {L F : List (List Nat)}, CutF t p L F → (∀ q, q ∈ L → p <+: q) ∧ ∀ q, q ∈ F → p <+: q
  | _, _, _, _, .here t p => ⟨fun q h => by rw [List.mem_singleton.mp h]; exact List.prefix_refl _, fun q h => by cases h⟩
  | _, p, _, _, .split a b => by
    obtain ⟨a1, a2⟩ := a.pre
    obtain ⟨b1, b2⟩ := b.pre
    have up : ∀ (s q : List Nat), (p ++ s) <+: q → p <+: q := fun s q h => (List.prefix_append p s).trans h
    refine ⟨fun q h => ?_, fun q h => ?_⟩
    · rcases List.mem_append.mp h with h | h
      · exact up _ _ (b1 q h)
      · exact up _ _ (a1 q h)
    · rcases List.mem_cons.mp h with rfl | h
      · exact List.prefix_refl _
      · rcases List.mem_append.mp h with h | h
        · exact up _ _ (b2 q h)
        · exact up _ _ (a2 q h)
theorem yn_apart {p q : List Nat} (a : (p ++ sY) <+: q) (b : (p ++ sN) <+: q) : False := by
  obtain ⟨r, rfl⟩ := a
  obtain ⟨s, e⟩ := b
  rw [List.append_assoc, List.append_assoc, List.append_cancel_left_eq] at e
  simp at e
theorem self_apart {p s : List Nat} (hs : s ≠ []) (h : (p ++ s) <+: p) : False := by
  have := h.length_le
  rw [List.length_append] at this
  have : s.length ≠ 0 := fun z => hs (List.length_eq_zero_iff.mp z)
  omega
/-- what a pruning is -/
theorem CutF.facts : ∀ {t : Tr} {p : List Nat} {L F : List (List Nat)}, CutF t p L F → L.Nodup ∧ F.Nodup ∧ (∀ q, q ∈ L → q ∉ F) ∧ (∀ q r, q ∈ L → r ∈ L → q <+: r → q = r) ∧ (∀ f, f ∈ F → ∃ q, q ∈ L ∧ f <+: q) ∧ (∀ q f, q ∈ L → f ∈ F → ¬ q <+: f)
  | _, _, _, _, .here t p => ⟨by simp, by simp, fun q _ h => (by cases h), fun q r h1 h2 _ => by rw [List.mem_singleton.mp h1, List.mem_singleton.mp h2], fun f h => (by cases h), fun q f _ h => (by cases h)⟩
  | _, p, _, _, .split (A := A) (B := B) (F := F) (G := G) a b => by
    obtain ⟨a1, a2⟩ := a.pre
    obtain ⟨b1, b2⟩ := b.pre
    obtain ⟨x1, x2, x3, x4, x5, x6⟩ := a.facts
    obtain ⟨y1, y2, y3, y4, y5, y6⟩ := b.facts
    have ya : ∀ {q}, (p ++ sY) <+: q → (p ++ sN) <+: q → False := fun h1 h2 => yn_apart h1 h2
    refine ⟨?_, ?_, ?_, ?_, ?_, ?_⟩
    · rw [List.nodup_append]
      exact ⟨y1, x1, fun q hq r hr e => ya (a1 r hr) (e ▸ b1 q hq)⟩
    · rw [List.nodup_cons, List.nodup_append]
      refine ⟨fun h => ?_, y2, x2, fun q hq r hr e => ya (a2 r hr) (e ▸ b2 q hq)⟩
      rcases List.mem_append.mp h with h | h
      · exact self_apart (by simp) (b2 p h)
      · exact self_apart (by simp) (a2 p h)
    · intro q hq hf
      rcases List.mem_append.mp hq with hq | hq
      · rcases List.mem_cons.mp hf with rfl | hf
        · exact self_apart (by simp) (b1 _ hq)
        · rcases List.mem_append.mp hf with hf | hf
          · exact y3 q hq hf
          · exact ya (a2 q hf) (b1 q hq)
      · rcases List.mem_cons.mp hf with rfl | hf
        · exact self_apart (by simp) (a1 _ hq)
        · rcases List.mem_append.mp hf with hf | hf
          · exact ya (a1 q hq) (b2 q hf)
          · exact x3 q hq hf
    · intro q r hq hr h
      rcases List.mem_append.mp hq with hq | hq
      · rcases List.mem_append.mp hr with hr | hr
        · exact y4 q r hq hr h
        · exact (ya (a1 r hr) ((b1 q hq).trans h)).elim
      · rcases List.mem_append.mp hr with hr | hr
        · exact (ya ((a1 q hq).trans h) (b1 r hr)).elim
        · exact x4 q r hq hr h
    · intro f hf
      rcases List.mem_cons.mp hf with rfl | hf
      · obtain ⟨q, hq⟩ := a.any
        exact ⟨q, List.mem_append.mpr (.inr hq), (List.prefix_append f sY).trans (a1 q hq)⟩
      · rcases List.mem_append.mp hf with hf | hf
        · obtain ⟨q, hq, h⟩ := y5 f hf
          exact ⟨q, List.mem_append.mpr (.inl hq), h⟩
        · obtain ⟨q, hq, h⟩ := x5 f hf
          exact ⟨q, List.mem_append.mpr (.inr hq), h⟩
    · intro q f hq hf h
      rcases List.mem_append.mp hq with hq | hq
      · rcases List.mem_cons.mp hf with rfl | hf
        · exact self_apart (by simp) ((b1 q hq).trans h)
        · rcases List.mem_append.mp hf with hf | hf
          · exact y6 q f hq hf h
          · exact ya (a2 f hf) ((b1 q hq).trans h)
      · rcases List.mem_cons.mp hf with rfl | hf
        · exact self_apart (by simp) ((a1 q hq).trans h)
        · rcases List.mem_append.mp hf with hf | hf
          · exact ya ((a1 q hq).trans h) (b2 f hf)
          · exact x6 q f hq hf h
end Law
end PF
namespace PF
namespace Law
/-- all places, with what stands there, as the stack tells them -/
def nodesOf : Tr → List Nat → List Pr
  | .en _, p => [(p, tEnd)]
  | .fk _ t u, p => (p, tFork) :: (nodesOf u (p ++ sN) ++ nodesOf t (p ++ sY))
def Tr.nodes : Tr → Nat
  | .en _ => 1
  | .fk _ t u => 1 + t.nodes + u.nodes
theorem nodesOf_len : ∀ (t : Tr) (p : List Nat), (nodesOf t p).length = t.nodes
  | .en _, _ => rfl
  | .fk _ t u, p => by
    rw [nodesOf, List.length_cons, List.length_append, nodesOf_len u, nodesOf_len t, Tr.nodes]; omega
theorem nodes_leaves : ∀ t : Tr, t.nodes + 1 = 2 * t.leaves
  | .en _ => rfl
  | .fk _ t u => by
    have := nodes_leaves t
    have := nodes_leaves u
    show 1 + t.nodes + u.nodes + 1 = 2 * (t.leaves + u.leaves)
    omega
theorem nodes_in : ∀ (t : Tr) (p : List Nat) (q : Pr), q ∈ nodesOf t p → p <+: q.1 ∧ q.1.length ≤ p.length + t.high
  | .en _, p, q, h => by rw [List.mem_singleton.mp h]; exact ⟨List.prefix_refl _, by simp⟩
  | .fk c t u, p, q, h => by
    have hh : (Tr.fk c t u).high = 1 + max t.high u.high := rfl
    rw [hh]
    rcases List.mem_cons.mp h with rfl | h
    · exact ⟨List.prefix_refl _, by simp⟩
    · rcases List.mem_append.mp h with h | h
      · obtain ⟨a, b⟩ := nodes_in u _ q h
        simp at b
        exact ⟨(List.prefix_append p sN).trans a, by omega⟩
      · obtain ⟨a, b⟩ := nodes_in t _ q h
        simp at b
        exact ⟨(List.prefix_append p sY).trans a, by omega⟩
/-- each end begins with a place of any pruning -/
theorem ends_under : ∀ {t : Tr} {p : List Nat} {L : List (List Nat)}, Cut t p L → ∀ q, (q, tEnd) ∈ nodesOf t p → ∃ s, s ∈ L ∧ s <+: q
  | _, _, _, .here t p, q, h => ⟨p, List.mem_singleton.mpr rfl, (nodes_in t p _ h).1⟩
  | _, p, _, .split a b, q, h => by
    rcases List.mem_cons.mp h with h | h
    · have : tEnd = tFork := congrArg Prod.snd h
      exact absurd this (by decide)
    · rcases List.mem_append.mp h with h | h
      · obtain ⟨s, hs, k⟩ := ends_under b q h
        exact ⟨s, List.mem_append.mpr (.inl hs), k⟩
      · obtain ⟨s, hs, k⟩ := ends_under a q h
        exact ⟨s, List.mem_append.mpr (.inr hs), k⟩
def todoW (x : List Nat × Tr) : W := .tup [.str x.1, trW x.2]
def restOf : List (List Nat × Tr) → List Pr
  | [] => []
  | x :: st => nodesOf x.2 x.1 ++ restOf st
theorem nodes_pos : ∀ (t : Tr) (p : List Nat), 0 < (nodesOf t p).length := fun t p => by
  cases t <;> simp [nodesOf]
theorem rest_len : ∀ st : List (List Nat × Tr), st.length ≤ (restOf st).length
  | [] => Nat.le_refl _
  | x :: st => by
    have := rest_len st
    have := nodes_pos x.2 x.1
    rw [restOf, List.length_append, List.length_cons]; omega
end Law
end PF
namespace PF
namespace Law
/-- a tree whose costs are told by g -/
def trF (g : Int → W) : Tr → W
  | .en c => .tup [.str tEnd, g c]
  | .fk c t u => .tup [.str tFork, g c, trF g t, trF g u]
theorem trF_pure {g : Int → W} (hg : ∀ c, (g c).pure = true) : ∀ t : Tr, (trF g t).pure = true
  | .en c => by rw [trF]; simp [hg]
  | .fk c t u => by rw [trF]; simp [trF_pure hg t, trF_pure hg u, hg]
def kindOf : Tr → List Nat
  | .en _ => tEnd
  | .fk _ _ _ => tFork
end Law
end PF
namespace PF
namespace Law
def pickK (k : List Nat) (ps : List Pr) : List (List Nat) := (ps.filter fun q => decide (q.2 = k)).map Prod.fst
end Law
end PF
namespace PF
namespace Law
/-! what is a pruning -/
theorem lt_pre : ∀ {p q : List Nat}, p <+: q → p ≠ q → p < q
  | [], [], _, h => absurd rfl h
  | [], _ :: _, _, _ => List.nil_lt_cons _ _
  | a :: p, [], h, _ => by simp at h
  | a :: p, b :: q, h0, n => by
    obtain ⟨rfl, h⟩ := List.cons_prefix_cons.mp h0
    exact List.cons_lt_cons_iff.mpr (.inr ⟨rfl, lt_pre h fun e => n (by rw [e])⟩)
theorem lt_ny : ∀ {p q r : List Nat}, (p ++ sN) <+: q → (p ++ sY) <+: r → q < r
  | [], q, r, h, k => by
    obtain ⟨s, rfl⟩ := h
    obtain ⟨u, rfl⟩ := k
    exact List.cons_lt_cons_iff.mpr (.inl (by decide))
  | a :: p, [], r, h, _ => by simp at h
  | a :: p, b :: q, [], _, k => by simp at k
  | a :: p, b :: q, c :: r, h0, k0 => by
    obtain ⟨rfl, h⟩ := List.cons_prefix_cons.mp h0
    obtain ⟨rfl, k⟩ := List.cons_prefix_cons.mp k0
    exact List.cons_lt_cons_iff.mpr (.inr ⟨rfl, lt_ny h k⟩)
theorem nodes_up : ∀ (t : Tr) (p : List Nat), ((nodesOf t p).map Prod.fst).Pairwise (· < ·)
  | .en _, p => by simp [nodesOf]
  | .fk c t u, p => by
    rw [nodesOf, List.map_cons, List.map_append]
    have hN : ∀ q, q ∈ (nodesOf u (p ++ sN)).map Prod.fst → (p ++ sN) <+: q := fun q hq => by
      obtain ⟨x, hx, rfl⟩ := List.mem_map.mp hq
      exact (nodes_in u _ x hx).1
    have hY : ∀ q, q ∈ (nodesOf t (p ++ sY)).map Prod.fst → (p ++ sY) <+: q := fun q hq => by
      obtain ⟨x, hx, rfl⟩ := List.mem_map.mp hq
      exact (nodes_in t _ x hx).1
    refine List.pairwise_cons.mpr ⟨fun q hq => ?_, List.pairwise_append.mpr ⟨nodes_up u _, nodes_up t _, fun a ha b hb => lt_ny (hN a ha) (hY b hb)⟩⟩
    rcases List.mem_append.mp hq with hq | hq
    · exact lt_pre ((List.prefix_append p sN).trans (hN q hq)) fun e => self_apart (s := sN) (by simp) (by have := hN q hq; rw [← e] at this; exact this)
    · exact lt_pre ((List.prefix_append p sY).trans (hY q hq)) fun e => self_apart (s := sY) (by simp) (by have := hY q hq; rw [← e] at this; exact this)
theorem lt_le {a b : List Nat} (h : a < b) : a ≤ b := List.le_of_lt h
theorem lt_irr {a : List Nat} : ¬ a < a := List.lt_irrefl a
theorem kind_up (k : List Nat) (t : Tr) (p : List Nat) : (pickK k (nodesOf t p)).Pairwise (· < ·) := by
  have := nodes_up t p
  unfold pickK
  exact this.sublist (List.filter_sublist.map Prod.fst)
theorem up_sortS {l : List (List Nat)} (h : l.Pairwise (· < ·)) : sortS l = l := (sortS_of (List.Perm.refl _) (h.imp lt_le)).symm
theorem up_nodup {l : List (List Nat)} (h : l.Pairwise (· < ·)) : l.Nodup := h.imp fun {a b} (h : a < b) (e : a = b) => by rw [e] at h; exact lt_irr h
theorem nodes_sortP (t : Tr) (p : List Nat) : sortP (nodesOf t p) = nodesOf t p := (sortP_of (List.Perm.refl _) ((List.pairwise_map.mp (nodes_up t p)).imp fun h => lePr_iff.mpr (.inl h))).symm
theorem up_iff {l : List (List Nat)} : sortS (nub l) = l ↔ l.Pairwise (· < ·) := by
  constructor
  · intro e
    have h1 := sortS_pw (nub l)
    have h2 : (sortS (nub l)).Nodup := (sortS_perm _).nodup_iff.mpr (nub_nodup l)
    rw [e] at h1 h2
    exact (h1.and h2).imp fun ⟨a, b⟩ => by
      rcases List.le_iff_lt_or_eq.mp a with h | h
      · exact h
      · exact absurd h b
  · intro h
    exact (sortS_of (nub_perm (up_nodup h) fun _ => Iff.rfl) (h.imp lt_le)).symm
end Law
end PF
namespace PF
/-! ### plain arithmetic -/
theorem abs_nat (i : Int) : (if i < 0 then -i else i) = ((i.natAbs : Nat) : Int) := by
  split <;> omega
namespace Law
/-- in lowest terms, a bottom above 0 -/
def low (t b : Int) : W := .tup [.int (t.fdiv (Int.gcd t b)), .int (b.fdiv (Int.gcd t b))]
theorem gcd_div {t b : Int} (hb : b ≠ 0) (hl : b.natAbs < 2 ^ 9000) (i : Int) : divOK i (Int.gcd t b) := by
  have hp : 0 < Int.gcd t b := Int.gcd_pos_of_ne_zero_right t hb
  refine ⟨by omega, ?_⟩
  have h1 : Int.gcd t b ≤ b.natAbs := Nat.le_of_dvd (by omega) (Nat.gcd_dvd_right _ _)
  have : limbs (Int.gcd t b) ≤ 300 := limbs_of (by rw [Int.natAbs_natCast]; omega)
  simp; intro z; omega
/-- a ratio as a value -/
def rat (q : Rat) : W := .tup [.int q.num, .int q.den]
@[simp] theorem rat_pure (q : Rat) : (rat q).pure = true := rfl
@[simp] theorem rat_pl (n : Nat) (q : Rat) : W.pl (n + 1) (rat q) = true := by simp [rat]
theorem rat_inj {p q : Rat} : rat p = rat q ↔ p = q := by
  refine ⟨fun h => ?_, fun h => by rw [h]⟩
  have h1 : p.num = q.num ∧ (p.den : Int) = q.den := by simpa [rat] using h
  exact Rat.ext h1.1 (by omega)
@[simp] theorem rat_0 (q : Rat) (h : Hs) : oIx (rat q) (.int 0) h = .ok (.int q.num) h := oIx_t0
@[simp] theorem rat_1 (q : Rat) (h : Hs) : oIx (rat q) (.int 1) h = .ok (.int q.den) h := oIx_t1
theorem low_rat (t b : Int) (h0 : 0 < b) : low t b = rat (Rat.divInt t b) := by
  unfold low rat
  have hg : (0 : Int) ≤ (Int.gcd t b : Nat) := by omega
  have e1 : t.fdiv (Int.gcd t b) = (Rat.divInt t b).num := by
    rw [Int.fdiv_eq_ediv_of_nonneg _ hg, Rat.num_divInt, Int.sign_eq_one_of_pos h0, Int.one_mul, Int.gcd_comm]
  have e2 : b.fdiv (Int.gcd t b) = ((Rat.divInt t b).den : Nat) := by
    rw [Int.fdiv_eq_ediv_of_nonneg _ hg, Rat.den_divInt, if_neg (by omega), Int.gcd_comm, Int.natCast_ediv, Int.natAbs_of_nonneg (by omega)]
  rw [e1, e2]
/-- of so many bits -/
def RB (n : Nat) (q : Rat) : Prop := q.num.natAbs < 2 ^ n ∧ q.den < 2 ^ n
theorem RB.le {m n : Nat} {q : Rat} (r : RB m q) (h : m ≤ n) : RB n q := ⟨Nat.lt_of_lt_of_le r.1 (Nat.pow_le_pow_right (by omega) h), Nat.lt_of_lt_of_le r.2 (Nat.pow_le_pow_right (by omega) h)⟩
theorem rb_of {n : Nat} {t b : Int} (h0 : 0 < b) (h1 : b.natAbs < 2 ^ n) (h2 : t.natAbs < 2 ^ n) : RB n (Rat.divInt t b) := by
  have hg : 0 < b.gcd t := Int.gcd_pos_of_ne_zero_left _ (by omega)
  constructor
  · rw [Rat.num_divInt, Int.sign_eq_one_of_pos h0, Int.one_mul]
    refine Nat.lt_of_le_of_lt ?_ h2
    rw [Int.natAbs_ediv_of_dvd (Int.gcd_dvd_right ..)]
    exact Nat.div_le_self _ _
  · rw [Rat.den_divInt, if_neg (by omega)]
    exact Nat.lt_of_le_of_lt (Nat.div_le_self _ _) h1
theorem bits_mul {x y : Nat} {a b : Nat} (hx : x < 2 ^ a) (hy : y < 2 ^ b) : x * y < 2 ^ (a + b) := by
  rw [Nat.pow_add]
  rcases Nat.eq_zero_or_pos x with z | z
  · rw [z, Nat.zero_mul]; exact Nat.mul_pos (Nat.two_pow_pos a) (Nat.two_pow_pos b)
  · exact Nat.mul_lt_mul'' hx hy
theorem bitsI_mul {x y : Int} {a b : Nat} (hx : x.natAbs < 2 ^ a) (hy : y.natAbs < 2 ^ b) : (x * y).natAbs < 2 ^ (a + b) := by
  rw [Int.natAbs_mul]
  exact bits_mul hx hy
theorem bitsI_add {x y : Int} {a : Nat} (hx : x.natAbs < 2 ^ a) (hy : y.natAbs < 2 ^ a) : (x + y).natAbs < 2 ^ (a + 1) := by
  have := Int.natAbs_add_le x y
  rw [Nat.pow_succ]
  omega
theorem bitsI_sub {x y : Int} {a : Nat} (hx : x.natAbs < 2 ^ a) (hy : y.natAbs < 2 ^ a) : (x - y).natAbs < 2 ^ (a + 1) := by
  have := Int.natAbs_sub_le x y
  rw [Nat.pow_succ]
  omega
theorem den_pos (q : Rat) : (0 : Int) < q.den := by have := q.den_nz; omega
theorem rat_self (q : Rat) : Rat.divInt q.num q.den = q := Rat.num_divInt_den q
theorem rat_add (p q : Rat) : Rat.divInt (p.num * q.den + q.num * p.den) (p.den * q.den) = p + q := by
  rw [← Rat.divInt_add_divInt _ _ (by have := den_pos p; omega) (by have := den_pos q; omega), rat_self, rat_self]
theorem RB.add {m n : Nat} {p q : Rat} (r : RB m p) (s : RB n q) : RB (m + n + 1) (p + q) := by
  rw [← rat_add]
  have a1 := bitsI_mul (y := q.den) r.1 (by rw [Int.natAbs_natCast]; exact s.2)
  have a2 := bitsI_mul (y := p.den) s.1 (by rw [Int.natAbs_natCast]; exact r.2)
  have a3 := bits_mul r.2 s.2
  rw [Nat.add_comm n m] at a2
  refine rb_of (Int.mul_pos (den_pos p) (den_pos q)) ?_ (bitsI_add a1 a2)
  rw [← Int.natCast_mul, Int.natAbs_natCast]
  exact Nat.lt_of_lt_of_le a3 (Nat.pow_le_pow_right (by omega) (by omega))
theorem RB.neg {m : Nat} {p : Rat} (r : RB m p) : RB m (-p) := by
  constructor
  · rw [Rat.neg_num, Int.natAbs_neg]; exact r.1
  · rw [Rat.neg_den]; exact r.2
theorem RB.sub {m n : Nat} {p q : Rat} (r : RB m p) (s : RB n q) : RB (m + n + 1) (p - q) := by
  rw [Rat.sub_eq_add_neg]
  exact r.add s.neg
theorem mulOK_b {i j : Int} {a b : Nat} (hi : i.natAbs < 2 ^ a) (hj : j.natAbs < 2 ^ b) (hs : a + b ≤ 900000) : mulOK i j := mulOK_of hi hj hs
theorem RB.d {n : Nat} {q : Rat} (r : RB n q) : ((q.den : Int)).natAbs < 2 ^ n := by rw [Int.natAbs_natCast]; exact r.2
end Law
end PF
namespace PF
namespace Law
theorem trg0 (g : Int → W) (t : Tr) (h : Hs) : oIx (trF g t) (.int 0) h = .ok (.str (kindOf t)) h := by cases t <;> exact oIx_t0
def tcost : Tr → Int
  | .en c => c
  | .fk c _ _ => c
theorem trg1 (g : Int → W) (t : Tr) (h : Hs) : oIx (trF g t) (.int 1) h = .ok (g (tcost t)) h := by cases t <;> exact oIx_t1
theorem tcost_sz {B : Int} {t : Tr} (k : t.costs B) : -B ≤ tcost t ∧ tcost t ≤ B := by
  cases t with
  | en c => exact k
  | fk c t u => exact k.1
/-- a pruning with the sum of its costs -/
inductive CutS : Tr → List Nat → List (List Nat) → Int → Prop
  | here (t : Tr) (p : List Nat) : CutS t p [p] (tcost t)
  | split {c a b : Int} {t u : Tr} {p : List Nat} {A B : List (List Nat)} : CutS t (p ++ sY) A a → CutS u (p ++ sN) B b → CutS (.fk c t u) p (B ++ A) (a + b)
theorem CutS.cut : ∀ {t : Tr} {p : List Nat} {L : List (List Nat)} {s : Int}, CutS t p L s → Cut t p L
  | _, _, _, _, .here t p => .here t p
  | _, _, _, _, .split a b => .split a.cut b.cut
theorem Cut.sum : ∀ {t : Tr} {p : List Nat} {L : List (List Nat)}, Cut t p L → ∃ s, CutS t p L s
  | _, _, _, .here t p => ⟨_, .here t p⟩
  | _, _, _, .split a b => by
    obtain ⟨s, hs⟩ := a.sum
    obtain ⟨r, hr⟩ := b.sum
    exact ⟨_, .split hs hr⟩
theorem CutS.sz {M : Int} : ∀ {t : Tr} {p : List Nat} {L : List (List Nat)} {s : Int}, CutS t p L s → t.costs M → -(L.length * M) ≤ s ∧ s ≤ L.length * M
  | _, _, _, _, .here t p, k => by
    have := tcost_sz k
    simp
    omega
  | _, _, _, _, .split (A := A) (B := B) x y, k => by
    have h1 := x.sz k.2.1
    have h2 := y.sz k.2.2
    rw [List.length_append]
    have e : ((B.length + A.length : Nat) : Int) * M = B.length * M + A.length * M := by
      rw [Int.natCast_add, Int.add_mul]
    rw [e]
    omega
/-- what a pruning costs at a price -/
def val (B : Int) (y : Rat) (s : Int) (n : Nat) : Rat := Rat.divInt s B + y * ((n : Int) : Rat)
def bst (B : Int) (y : Rat) : Tr → List Nat → Rat × List (List Nat)
  | .en c, p => (Rat.divInt c B + y, [p])
  | .fk c t u, p => if (bst B y t (p ++ sY)).1 + (bst B y u (p ++ sN)).1 < Rat.divInt c B + y then ((bst B y t (p ++ sY)).1 + (bst B y u (p ++ sN)).1, (bst B y u (p ++ sN)).2 ++ (bst B y t (p ++ sY)).2) else (Rat.divInt c B + y, [p])
theorem div_sum {a b c : Int} (hc : 0 < c) : Rat.divInt a c + Rat.divInt b c = Rat.divInt (a + b) c := by
  simp only [Rat.divInt_eq_div, Rat.intCast_add]
  have h1 : (0 : Rat) < (c : Rat) := by
    have : ((0 : Int) : Rat) < (c : Rat) := Rat.intCast_lt_intCast.mpr hc
    rwa [Rat.intCast_zero] at this
  generalize (c : Rat) = z at *
  have : z ≠ 0 := by grind
  grind
theorem val_add {B : Int} (hB : 0 < B) (y : Rat) (a b : Int) (m n : Nat) : val B y a m + val B y b n = val B y (a + b) (m + n) := by
  unfold val
  rw [← div_sum hB, Int.natCast_add, Rat.intCast_add]
  grind
theorem val_one {B : Int} (y : Rat) (c : Int) : val B y c 1 = Rat.divInt c B + y := by
  unfold val
  have : (((1 : Nat) : Int) : Rat) = 1 := rfl
  rw [this]
  grind
theorem bst_cut {B : Int} (hB : 0 < B) (y : Rat) : ∀ (t : Tr) (p : List Nat), ∃ s, CutS t p (bst B y t p).2 s ∧ (bst B y t p).1 = val B y s (bst B y t p).2.length
  | .en c, p => ⟨c, .here (.en c) p, by rw [bst]; exact (val_one y c).symm⟩
  | .fk c t u, p => by
    obtain ⟨a, a1, a2⟩ := bst_cut hB y t (p ++ sY)
    obtain ⟨b, b1, b2⟩ := bst_cut hB y u (p ++ sN)
    rw [bst]
    split
    · refine ⟨a + b, .split a1 b1, ?_⟩
      show _ = val B y (a + b) ((bst B y u (p ++ sN)).2 ++ (bst B y t (p ++ sY)).2).length
      rw [List.length_append, Nat.add_comm, ← val_add hB, a2, b2]
    · exact ⟨c, .here (.fk c t u) p, (val_one y c).symm⟩
/-- no pruning is cheaper, and in one as cheap it lies -/
theorem bst_least {B : Int} (hB : 0 < B) (y : Rat) : ∀ {t : Tr} {p : List Nat} {L : List (List Nat)} {s : Int}, CutS t p L s → (bst B y t p).1 ≤ val B y s L.length ∧ ((bst B y t p).1 = val B y s L.length → ∀ q, q ∈ L → ∃ r, r ∈ (bst B y t p).2 ∧ r <+: q)
  | _, _, _, _, .here (.en c) p => by
    rw [bst]
    refine ⟨by rw [List.length_singleton, val_one]; exact Rat.le_refl, fun _ q hq => ⟨q, hq, List.prefix_refl _⟩⟩
  | _, _, _, _, .here (.fk c t u) p => by
    rw [bst]
    have e : val B y (tcost (.fk c t u)) ([p] : List (List Nat)).length = Rat.divInt c B + y := val_one y c
    split
    · rename_i k
      refine ⟨by rw [e]; show _ + _ ≤ _; grind, fun h => ?_⟩
      rw [e] at h
      have h : (bst B y t (p ++ sY)).1 + (bst B y u (p ++ sN)).1 = Rat.divInt c B + y := h
      grind
    · refine ⟨by rw [e]; exact Rat.le_refl, fun _ q hq => ⟨q, hq, List.prefix_refl _⟩⟩
  | _, p, _, _, .split (c := c) (a := a) (b := b) (t := t) (u := u) (A := A) (B := B2) x z => by
    obtain ⟨a1, a2⟩ := bst_least hB y x
    obtain ⟨b1, b2⟩ := bst_least hB y z
    have e : val B y (a + b) (B2 ++ A).length = val B y a A.length + val B y b B2.length := by
      rw [List.length_append, Nat.add_comm, val_add hB]
    have px := x.cut.toF
    have pz := z.cut.toF
    rw [bst, e]
    split
    · refine ⟨by show _ + _ ≤ _; grind, fun h q hq => ?_⟩
      have h : (bst B y t (p ++ sY)).1 + (bst B y u (p ++ sN)).1 = val B y a A.length + val B y b B2.length := h
      rcases List.mem_append.mp hq with hq | hq
      · obtain ⟨r, hr, k⟩ := b2 (by grind) q hq
        exact ⟨r, List.mem_append.mpr (.inl hr), k⟩
      · obtain ⟨r, hr, k⟩ := a2 (by grind) q hq
        exact ⟨r, List.mem_append.mpr (.inr hr), k⟩
    · refine ⟨by show Rat.divInt c B + y ≤ _; grind, fun _ q hq => ⟨p, List.mem_singleton.mpr rfl, ?_⟩⟩
      obtain ⟨F, fx⟩ := px
      obtain ⟨G, fz⟩ := pz
      rcases List.mem_append.mp hq with hq | hq
      · exact (List.prefix_append p sN).trans (fz.pre.1 q hq)
      · exact (List.prefix_append p sY).trans (fx.pre.1 q hq)
theorem rb_val {B : Int} (hB : 0 < B ∧ B < 2 ^ 100) {y : Rat} (ry : RB 900 y) {s : Int} {n : Nat} (hs : s.natAbs < 2 ^ 119) (hn : n < 2 ^ 20) : RB 1100 (val B y s n) := by
  have r1 : RB 120 (Rat.divInt s B) := rb_of hB.1 (by omega) (by omega)
  have r2 : RB 20 ((n : Int) : Rat) := ⟨by show ((n : Int)).natAbs < 2 ^ 20; omega, by show 1 < 2 ^ 20; omega⟩
  -- y n by hand: the product keeps y's bits
  have r3 : RB 920 (y * ((n : Int) : Rat)) := by
    have e : y * ((n : Int) : Rat) = Rat.divInt (y.num * n) y.den := by
      conv => lhs; rw [← rat_self y]
      rw [Rat.divInt_eq_div, Rat.divInt_eq_div, Rat.intCast_mul]
      have h1 : (0 : Rat) < ((y.den : Int) : Rat) := by
        have : ((0 : Int) : Rat) < ((y.den : Int) : Rat) := Rat.intCast_lt_intCast.mpr (den_pos y)
        rwa [Rat.intCast_zero] at this
      generalize ((y.den : Int) : Rat) = z at *
      have : z ≠ 0 := by grind
      grind
    rw [e]
    exact rb_of (den_pos y) (Nat.lt_of_lt_of_le ry.d (Nat.pow_le_pow_right (by omega) (by omega))) (bitsI_mul (a := 900) (b := 20) ry.1 (by omega))
  exact (r1.add r3).le (by omega)
theorem bst_rb {B : Int} (hB : 0 < B ∧ B < 2 ^ 100) {y : Rat} (ry : RB 900 y) (t : Tr) (p : List Nat) (tc : t.costs (2 ^ 105)) (hl : t.leaves ≤ 100) : RB 1100 (bst B y t p).1 := by
  obtain ⟨s, c, e⟩ := bst_cut hB.1 y t p
  have sz := c.sz tc
  have ln := c.cut.len
  rw [e]
  generalize (bst B y t p).2.length = n at *
  have : (n : Int) * 2 ^ 105 ≤ 100 * 2 ^ 105 := Int.mul_le_mul_of_nonneg_right (by omega) (by omega)
  exact rb_val hB ry (by omega) (by omega)
end Law
end PF
namespace PF
namespace Law
theorem divInt_le {x y c : Int} (hc : 0 < c) : Rat.divInt x c ≤ Rat.divInt y c ↔ x ≤ y := by
  rw [Rat.divInt_eq_div, Rat.divInt_eq_div]
  have h1 : (0 : Rat) < (c : Rat) := by
    have : ((0 : Int) : Rat) < (c : Rat) := Rat.intCast_lt_intCast.mpr hc
    rwa [Rat.intCast_zero] at this
  have e : (x : Rat) / (c : Rat) * (c : Rat) = x := by
    generalize (c : Rat) = z at *
    have : z ≠ 0 := by grind
    grind
  rw [← Rat.not_lt, Rat.div_lt_iff h1, e, Rat.intCast_lt_intCast]
  omega
theorem val_tot {B b : Int} (hB : 0 < B) (hb : 0 < b) (a s : Int) (n : Nat) : val B (Rat.divInt a b) s n = Rat.divInt (s * b + a * n * B) (B * b) := by
  unfold val
  obtain ⟨m, hm⟩ : ∃ m : Int, m = (n : Int) := ⟨_, rfl⟩
  rw [← hm]
  simp only [Rat.divInt_eq_div, Rat.intCast_add, Rat.intCast_mul]
  have h1 : (0 : Rat) < (B : Rat) := by
    have : ((0 : Int) : Rat) < (B : Rat) := Rat.intCast_lt_intCast.mpr hB
    rwa [Rat.intCast_zero] at this
  have h2 : (0 : Rat) < (b : Rat) := by
    have : ((0 : Int) : Rat) < (b : Rat) := Rat.intCast_lt_intCast.mpr hb
    rwa [Rat.intCast_zero] at this
  generalize (B : Rat) = u at *
  generalize (b : Rat) = v at *
  have n1 : u ≠ 0 := by grind
  have n2 : v ≠ 0 := by grind
  grind
end Law
end PF
namespace PF
namespace Law
/-! the links of the best pruning at a price, and the next price -/
def bsm (B : Int) (y : Rat) : Tr → Int
  | .en c => c
  | .fk c t u => if (bst B y t []).1 + (bst B y u []).1 < Rat.divInt c B + y then bsm B y t + bsm B y u else c
theorem bst_any (B : Int) (y : Rat) : ∀ (t : Tr) (p q : List Nat), (bst B y t p).1 = (bst B y t q).1 ∧ (bst B y t p).2.length = (bst B y t q).2.length
  | .en c, p, q => ⟨rfl, rfl⟩
  | .fk c t u, p, q => by
    obtain ⟨a1, a2⟩ := bst_any B y t (p ++ sY) (q ++ sY)
    obtain ⟨b1, b2⟩ := bst_any B y u (p ++ sN) (q ++ sN)
    rw [bst, bst, a1, b1]
    split
    · exact ⟨rfl, by dsimp only; rw [List.length_append, List.length_append, a2, b2]⟩
    · exact ⟨rfl, rfl⟩
def bv (B : Int) (y : Rat) (t : Tr) : Rat := (bst B y t []).1
def bn (B : Int) (y : Rat) (t : Tr) : Nat := (bst B y t []).2.length
theorem bv_of {B : Int} {y : Rat} {t : Tr} (p : List Nat) : (bst B y t p).1 = bv B y t := (bst_any B y t p []).1
theorem bn_of {B : Int} {y : Rat} {t : Tr} (p : List Nat) : (bst B y t p).2.length = bn B y t := (bst_any B y t p []).2
/-- the fork is inside -/
def ins (B : Int) (y : Rat) (c : Int) (t u : Tr) : Prop := bv B y t + bv B y u < Rat.divInt c B + y
instance (B : Int) (y : Rat) (c : Int) (t u : Tr) : Decidable (ins B y c t u) := inferInstanceAs (Decidable (_ < _))
theorem bst_fk (B : Int) (y : Rat) (c : Int) (t u : Tr) (p : List Nat) : bst B y (.fk c t u) p = if ins B y c t u then (bv B y t + bv B y u, (bst B y u (p ++ sN)).2 ++ (bst B y t (p ++ sY)).2) else (Rat.divInt c B + y, [p]) := by
  rw [bst, bv_of, bv_of]; rfl
theorem bv_fk (B : Int) (y : Rat) (c : Int) (t u : Tr) : bv B y (.fk c t u) = if ins B y c t u then bv B y t + bv B y u else Rat.divInt c B + y := by
  unfold bv
  rw [bst_fk]
  split <;> rfl
theorem bn_fk (B : Int) (y : Rat) (c : Int) (t u : Tr) : bn B y (.fk c t u) = if ins B y c t u then bn B y t + bn B y u else 1 := by
  have := bn_of (B := B) (y := y) (t := .fk c t u) []
  rw [← this, bst_fk]
  split
  · dsimp only
    rw [List.length_append, bn_of, bn_of, Nat.add_comm]
  · rfl
theorem bsm_fk (B : Int) (y : Rat) (c : Int) (t u : Tr) : bsm B y (.fk c t u) = if ins B y c t u then bsm B y t + bsm B y u else c := rfl
theorem bst_S {B : Int} (y : Rat) : ∀ (t : Tr) (p : List Nat), CutS t p (bst B y t p).2 (bsm B y t)
  | .en c, p => .here (.en c) p
  | .fk c t u, p => by
    rw [bst_fk, bsm_fk]
    split
    · exact .split (bst_S y t _) (bst_S y u _)
    · exact .here (.fk c t u) p
theorem bn_pos (B : Int) (y : Rat) (t : Tr) : 1 ≤ bn B y t := ((bst_S (B := B) y t []).cut.len).1
theorem bv_val {B : Int} (hB : 0 < B) (y : Rat) : ∀ t : Tr, bv B y t = val B y (bsm B y t) (bn B y t)
  | .en c => (val_one y c).symm
  | .fk c t u => by
    rw [bv_fk, bsm_fk, bn_fk]
    split
    · rw [bv_val hB y t, bv_val hB y u, val_add hB]
    · exact (val_one y c).symm
/-- the link of a fork inside -/
def lk (B : Int) (y : Rat) (c : Int) (t u : Tr) : Rat := (Rat.divInt c B - Rat.divInt (bsm B y t + bsm B y u) B) / (((bn B y t + bn B y u : Nat) : Int) - 1 : Int)
def lnk (B : Int) (y : Rat) : Tr → List Nat → List (List Nat × Rat)
  | .en _, _ => []
  | .fk c t u, p => if ins B y c t u then (p, lk B y c t u) :: (lnk B y u (p ++ sN) ++ lnk B y t (p ++ sY)) else []
theorem castR (a b : Int) : ((a - b : Int) : Rat) = (a : Rat) - (b : Rat) := Rat.intCast_sub a b
theorem lk_le {B : Int} (y z : Rat) (c : Int) (t u : Tr) : z ≤ lk B y c t u ↔ val B z (bsm B y t + bsm B y u) (bn B y t + bn B y u) ≤ Rat.divInt c B + z := by
  have h1 := bn_pos B y t
  have h2 := bn_pos B y u
  unfold lk val
  have hp : (0 : Rat) < ((((bn B y t + bn B y u : Nat) : Int) - 1 : Int) : Rat) := by
    have : ((0 : Int) : Rat) < ((((bn B y t + bn B y u : Nat) : Int) - 1 : Int) : Rat) := Rat.intCast_lt_intCast.mpr (by omega)
    rwa [Rat.intCast_zero] at this
  rw [castR] at hp ⊢
  generalize (((bn B y t + bn B y u : Nat) : Int) : Rat) = n at *
  generalize Rat.divInt (bsm B y t + bsm B y u) B = s at *
  generalize Rat.divInt c B = d at *
  have e1 : ((1 : Int) : Rat) = 1 := rfl
  rw [e1] at hp ⊢
  rw [← Rat.not_lt, Rat.div_lt_iff hp]
  grind
theorem lk_lt {B : Int} (y z : Rat) (c : Int) (t u : Tr) : z < lk B y c t u ↔ val B z (bsm B y t + bsm B y u) (bn B y t + bn B y u) < Rat.divInt c B + z := by
  have h1 := bn_pos B y t
  have h2 := bn_pos B y u
  unfold lk val
  have hp : (0 : Rat) < ((((bn B y t + bn B y u : Nat) : Int) - 1 : Int) : Rat) := by
    have : ((0 : Int) : Rat) < ((((bn B y t + bn B y u : Nat) : Int) - 1 : Int) : Rat) := Rat.intCast_lt_intCast.mpr (by omega)
    rwa [Rat.intCast_zero] at this
  rw [castR] at hp ⊢
  generalize (((bn B y t + bn B y u : Nat) : Int) : Rat) = n at *
  generalize Rat.divInt (bsm B y t + bsm B y u) B = s at *
  generalize Rat.divInt c B = d at *
  have e1 : ((1 : Int) : Rat) = 1 := rfl
  rw [e1] at hp ⊢
  rw [Rat.lt_div_iff hp]
  grind
/-- dearer leaves: every pruning costs at least so much more -/
theorem bv_mono {B : Int} (hB : 0 < B) {y z : Rat} (h : y ≤ z) (t : Tr) : bv B y t + (z - y) ≤ bv B z t := by
  have h1 := bv_val hB z t
  have c := bst_S (B := B) z t []
  have h2 := (bst_least hB y c).1
  have h3 : (bst B z t []).2.length = bn B z t := rfl
  have h4 : (bst B y t []).1 = bv B y t := rfl
  rw [h3, h4] at h2
  have np := bn_pos B z t
  have np2 : (1 : Rat) ≤ (((bn B z t : Nat) : Int) : Rat) := by
    have : ((1 : Int) : Rat) ≤ (((bn B z t : Nat) : Int) : Rat) := Rat.intCast_le_intCast.mpr (by omega)
    exact this
  unfold val at h1 h2
  rw [h1]
  generalize (((bn B z t : Nat) : Int) : Rat) = n at *
  generalize Rat.divInt (bsm B z t) B = s at *
  have : 0 ≤ (z - y) * (n - 1) := Rat.mul_nonneg (by grind) (by grind)
  grind
/-- what is cut stays cut -/
theorem ins_mono {B : Int} (hB : 0 < B) {y z : Rat} (h : y ≤ z) {c : Int} {t u : Tr} (k : ¬ ins B y c t u) : ¬ ins B z c t u := by
  unfold ins at *
  have h1 := bv_mono hB h t
  have h2 := bv_mono hB h u
  grind
/-- at a price no link is below, the row of leaves keeps the least total -/
theorem bv_keep {B : Int} (hB : 0 < B) {y z : Rat} (h : y ≤ z) : ∀ (t : Tr) (p : List Nat), (∀ x, x ∈ lnk B y t p → z ≤ x.2) → bv B z t = val B z (bsm B y t) (bn B y t)
  | .en c, p, _ => (val_one z c).symm
  | .fk c t u, p, hl => by
    rw [lnk] at hl
    rw [bv_fk, bsm_fk, bn_fk]
    by_cases k : ins B y c t u
    · rw [if_pos k] at hl
      rw [if_pos k, if_pos k]
      have l0 := hl _ (List.mem_cons_self ..)
      have h1 := bv_keep hB h t (p ++ sY) fun x hx => hl x (List.mem_cons_of_mem _ (List.mem_append.mpr (.inr hx)))
      have h2 := bv_keep hB h u (p ++ sN) fun x hx => hl x (List.mem_cons_of_mem _ (List.mem_append.mpr (.inl hx)))
      have l1 := (lk_le y z c t u).mp l0
      have e : bv B z t + bv B z u = val B z (bsm B y t + bsm B y u) (bn B y t + bn B y u) := by rw [h1, h2, val_add hB]
      by_cases n : ins B z c t u
      · rw [if_pos n, e]
      · rw [if_neg n]
        unfold ins at n
        rw [e] at n
        exact Rat.le_antisymm (Rat.not_lt.mp n) l1
    · rw [if_neg k, if_neg k, if_neg (ins_mono hB h k), val_one]
/-- inside yet at the next price: the forks with a greater link -/
theorem ins_next {B : Int} (hB : 0 < B) {y z : Rat} (h : y ≤ z) (c : Int) (t u : Tr) (p : List Nat) (hl : ∀ x, x ∈ lnk B y (.fk c t u) p → z ≤ x.2) : ins B z c t u ↔ ins B y c t u ∧ z < lk B y c t u := by
  constructor
  · intro k
    have i : ins B y c t u := Decidable.byContradiction fun n => ins_mono hB h n k
    refine ⟨i, (lk_lt y z c t u).mpr ?_⟩
    rw [lnk, if_pos i] at hl
    have h1 := bv_keep hB h t (p ++ sY) fun x hx => hl x (List.mem_cons_of_mem _ (List.mem_append.mpr (.inr hx)))
    have h2 := bv_keep hB h u (p ++ sN) fun x hx => hl x (List.mem_cons_of_mem _ (List.mem_append.mpr (.inl hx)))
    unfold ins at k
    rwa [h1, h2, val_add hB] at k
  · rintro ⟨i, k⟩
    have k := (lk_lt y z c t u).mp k
    rw [lnk, if_pos i] at hl
    have h1 := bv_keep hB h t (p ++ sY) fun x hx => hl x (List.mem_cons_of_mem _ (List.mem_append.mpr (.inr hx)))
    have h2 := bv_keep hB h u (p ++ sN) fun x hx => hl x (List.mem_cons_of_mem _ (List.mem_append.mpr (.inl hx)))
    unfold ins
    rwa [h1, h2, val_add hB]
/-- between two told prices the leaves are the same -/
theorem bst_same {B : Int} (hB : 0 < B) {y z : Rat} (h : y ≤ z) : ∀ (t : Tr) (p : List Nat), (∀ x, x ∈ lnk B y t p → z < x.2) → (bst B z t p).2 = (bst B y t p).2
  | .en c, p, _ => rfl
  | .fk c t u, p, hl => by
    have i := ins_next hB h c t u p fun x hx => Rat.le_of_lt (hl x hx)
    rw [bst_fk, bst_fk]
    rw [lnk] at hl
    by_cases k : ins B y c t u
    · rw [if_pos k] at hl
      have k2 : ins B z c t u := i.mpr ⟨k, hl _ (List.mem_cons_self ..)⟩
      rw [if_pos k, if_pos k2]
      show (bst B z u _).2 ++ (bst B z t _).2 = _
      rw [bst_same hB h t (p ++ sY) fun x hx => hl x (List.mem_cons_of_mem _ (List.mem_append.mpr (.inr hx))), bst_same hB h u (p ++ sN) fun x hx => hl x (List.mem_cons_of_mem _ (List.mem_append.mpr (.inl hx)))]
    · rw [if_neg k, if_neg fun n => k (i.mp n).1]
/-- each link lies above the price -/
theorem lnk_above {B : Int} (hB : 0 < B) (y : Rat) : ∀ (t : Tr) (p : List Nat) (x : List Nat × Rat), x ∈ lnk B y t p → y < x.2
  | .en _, p, x, h => by rw [lnk] at h; cases h
  | .fk c t u, p, x, h => by
    rw [lnk] at h
    split at h
    · rename_i k
      rcases List.mem_cons.mp h with h | h
      · rw [h]
        refine (lk_lt y y c t u).mpr ?_
        unfold ins at k
        rwa [bv_val hB, bv_val hB, val_add hB] at k
      · rcases List.mem_append.mp h with h | h
        · exact lnk_above hB y u _ x h
        · exact lnk_above hB y t _ x h
    · cases h
theorem lnk_pre (B : Int) (y : Rat) : ∀ (t : Tr) (p : List Nat) (x : List Nat × Rat), x ∈ lnk B y t p → p <+: x.1
  | .en _, p, x, h => by rw [lnk] at h; cases h
  | .fk c t u, p, x, h => by
    rw [lnk] at h
    split at h
    · rcases List.mem_cons.mp h with h | h
      · rw [h]; exact List.prefix_refl _
      · rcases List.mem_append.mp h with h | h
        · exact (List.prefix_append p sN).trans (lnk_pre B y u _ x h)
        · exact (List.prefix_append p sY).trans (lnk_pre B y t _ x h)
    · cases h
/-- the leaves get no more, and fewer where a link is met -/
theorem bn_fewer {B : Int} (hB : 0 < B) {y z : Rat} (h : y ≤ z) : ∀ (t : Tr) (p : List Nat), (∀ x, x ∈ lnk B y t p → z ≤ x.2) → bn B z t ≤ bn B y t ∧ ((∃ x, x ∈ lnk B y t p ∧ x.2 = z) → bn B z t < bn B y t)
  | .en c, p, _ => ⟨Nat.le_refl _, fun ⟨x, hx, _⟩ => by rw [lnk] at hx; cases hx⟩
  | .fk c t u, p, hl => by
    have i := ins_next hB h c t u p hl
    have t1 := bn_pos B y t
    have u1 := bn_pos B y u
    rw [bn_fk, bn_fk]
    rw [lnk] at hl
    by_cases k : ins B y c t u
    · rw [if_pos k] at hl
      rw [if_pos k]
      obtain ⟨a1, a2⟩ := bn_fewer hB h t (p ++ sY) fun x hx => hl x (List.mem_cons_of_mem _ (List.mem_append.mpr (.inr hx)))
      obtain ⟨b1, b2⟩ := bn_fewer hB h u (p ++ sN) fun x hx => hl x (List.mem_cons_of_mem _ (List.mem_append.mpr (.inl hx)))
      by_cases k2 : ins B z c t u
      · rw [if_pos k2]
        refine ⟨by omega, ?_⟩
        rintro ⟨x, hx, e⟩
        rw [lnk, if_pos k] at hx
        rcases List.mem_cons.mp hx with hx | hx
        · have l := (i.mp k2).2
          rw [hx] at e
          have e : lk B y c t u = z := e
          rw [e] at l
          exact absurd l (Rat.lt_irrefl)
        · rcases List.mem_append.mp hx with hx | hx
          · have := b2 ⟨x, hx, e⟩; omega
          · have := a2 ⟨x, hx, e⟩; omega
      · rw [if_neg k2]
        exact ⟨by omega, fun _ => by omega⟩
    · rw [if_neg k, if_neg fun n => k (i.mp n).1]
      refine ⟨Nat.le_refl _, ?_⟩
      rintro ⟨x, hx, _⟩
      rw [lnk, if_neg k] at hx
      cases hx
end Law
end PF
namespace PF
namespace Law
/-! shared_by -/
theorem sb_loop (n : Nat) : ∀ (a b : Nat) (x y : Option W) (h : Hs), b < n → b < 2 ^ 9000 → ∃ x' y', whileF (tVal (dBin oGt (dV 1) (dC (.int 0)))) L1_shared_by n [some (.int a), some (.int b), x, y] h = .nx [some (.int (Nat.gcd a b)), some (.int 0), x', y'] h := by
  induction n with
  | zero => intro a b x y h hb; omega
  | succ n ih =>
    intro a b x y h hb hl
    rw [whileF]
    by_cases hz : b = 0
    · subst hz
      refine ⟨x, y, ?_⟩
      simp
    · have hp : (0 : Int) < (b : Int) := by omega
      have hd : divOK (a : Int) (b : Int) := ⟨by omega, by
        have : limbs (b : Int) ≤ 300 := limbs_of (by rw [Int.natAbs_natCast]; exact hl)
        simp; intro z; omega⟩
      have e1 : (a : Int).fmod (b : Int) = ((a % b : Nat) : Int) := by
        rw [Int.fmod_eq_emod_of_nonneg _ (by omega)]; omega
      obtain ⟨x', y', e⟩ := ih b (a % b) (some (.int ((a : Int).fdiv (b : Int)))) (some (.int ((a % b : Nat) : Int))) h (by have := Nat.mod_lt a (by omega : 0 < b); omega) (Nat.lt_trans (Nat.mod_lt a (by omega)) hl)
      refine ⟨x', y', ?_⟩
      have eg : Nat.gcd a b = Nat.gcd b (a % b) := by rw [Nat.gcd_comm a b, Nat.gcd_rec b a, Nat.gcd_comm]
      rw [eg, ← e]
      have hz' : ¬ ((b : Int) = 0) := by omega
      simp [L1_shared_by, hp, bDivmod_i hd, e1, hz]
theorem shared_by_e (a b : Int) (h : Hs) (hb : b.natAbs < 2 ^ 9000) : f_shared_by [.int a, .int b] h = .ok (.int (Int.gcd a b)) h := by
  obtain ⟨x', y', e⟩ := sb_loop (b.natAbs + 1) a.natAbs b.natAbs none none h (by omega) hb
  have e2 := sWhile_of e (by intro z; cases z) (FUEL_big hb)
  rw [f_shared_by_e]
  unfold b_shared_by
  simp [abs_nat, e2, Int.gcd]
theorem ratio_e (t b : Int) (h : Hs) (h0 : 0 < b) (hb : b.natAbs < 2 ^ 9000) : f_ratio [.int t, .int b] h = .ok (low t b) h := by
  rw [f_ratio_e]
  unfold b_ratio
  have n0 : ¬ (b = 0) := by omega
  have n1 : ¬ (b < 0) := by omega
  simp [shared_by_e t b h hb, n0, n1, oDiv_i (gcd_div (t := t) (b := b) n0 hb _), low]

/-- in lowest terms, the bottom of either sign -/
def lowG (t b : Int) : W := if b < 0 then low (-t) (-b) else low t b
theorem ratio_g (t b : Int) (h : Hs) (h0 : b ≠ 0) (hb : b.natAbs < 2 ^ 9000) : f_ratio [.int t, .int b] h = .ok (lowG t b) h := by
  by_cases hn : b < 0
  · rw [f_ratio_e]
    unfold b_ratio
    have hd : ∀ i : Int, divOK i (-((Int.gcd t b : Nat) : Int)) := fun i => by
      have := gcd_div (t := t) (b := b) h0 hb i
      have hp : 0 < Int.gcd t b := Int.gcd_pos_of_ne_zero_right t h0
      refine ⟨by omega, ?_⟩
      have h1 : Int.gcd t b ≤ b.natAbs := Nat.le_of_dvd (by omega) (Nat.gcd_dvd_right _ _)
      have : limbs (-((Int.gcd t b : Nat) : Int)) ≤ 300 := limbs_of (by rw [Int.natAbs_neg, Int.natAbs_natCast]; omega)
      simp
      intro z; omega
    have f1 : ∀ x : Int, x.fdiv (-((Int.gcd t b : Nat) : Int)) = (-x).fdiv (Int.gcd t b) := fun x => by
      have := Int.neg_fdiv_neg (-x) (Int.gcd t b)
      rwa [Int.neg_neg] at this
    simp [shared_by_e t b h hb, h0, hn, oDiv_i (hd _), lowG, low, f1, Int.gcd_neg, Int.neg_gcd]
  · rw [ratio_e t b h (by omega) hb, lowG, if_neg hn]
theorem ratio_r (t b : Int) (h : Hs) (h0 : b ≠ 0) (hb : b.natAbs < 2 ^ 9000) : f_ratio [.int t, .int b] h = .ok (rat (Rat.divInt t b)) h := by
  rw [ratio_g t b h h0 hb, lowG]
  split
  · rw [low_rat _ _ (by omega), Rat.neg_divInt_neg]
  · rw [low_rat _ _ (by omega)]
end Law
end PF
namespace PF
namespace Law
theorem plus_r (p q : Rat) (h : Hs) (r : RB 4000 p) (s : RB 4000 q) : f_plus [rat p, rat q] h = .ok (rat (p + q)) h := by
  rw [f_plus_e]
  unfold b_plus
  have m1 := mulOK_b r.1 s.d (by omega)
  have m2 := mulOK_b s.1 r.d (by omega)
  have m3 := mulOK_b r.d s.d (by omega)
  have e := ratio_r (p.num * q.den + q.num * p.den) (p.den * q.den) h (by have := Int.mul_pos (den_pos p) (den_pos q); omega) (by
    rw [← Int.natCast_mul, Int.natAbs_natCast]
    exact Nat.lt_of_lt_of_le (bits_mul r.2 s.2) (Nat.pow_le_pow_right (by omega) (by omega)))
  rw [rat_add] at e
  simp [oMul_i m1, oMul_i m2, oMul_i m3, e]
end Law
end PF
namespace PF
namespace Law
theorem rat_sub (p q : Rat) : Rat.divInt (p.num * q.den - q.num * p.den) (p.den * q.den) = p - q := by
  rw [← Rat.divInt_sub_divInt _ _ (by have := den_pos p; omega) (by have := den_pos q; omega), rat_self, rat_self]
theorem minus_r (p q : Rat) (h : Hs) (r : RB 4000 p) (s : RB 4000 q) : f_minus [rat p, rat q] h = .ok (rat (p - q)) h := by
  rw [f_minus_e]
  unfold b_minus
  have m1 := mulOK_b r.1 s.d (by omega)
  have m2 := mulOK_b s.1 r.d (by omega)
  have m3 := mulOK_b r.d s.d (by omega)
  have e := ratio_r (p.num * q.den - q.num * p.den) (p.den * q.den) h (by have := Int.mul_pos (den_pos p) (den_pos q); omega) (by
    rw [← Int.natCast_mul, Int.natAbs_natCast]
    exact Nat.lt_of_lt_of_le (bits_mul r.2 s.2) (Nat.pow_le_pow_right (by omega) (by omega)))
  rw [rat_sub] at e
  simp [oMul_i m1, oMul_i m2, oMul_i m3, e]
end Law
end PF
namespace PF
namespace Law
theorem rat_div (p q : Rat) : Rat.divInt (p.num * q.den) (p.den * q.num) = p / q := by
  rw [← Rat.divInt_mul_divInt _ _, rat_self, Rat.div_def]
  congr 1
  have := Rat.inv_divInt q.num q.den
  rw [rat_self] at this
  exact this.symm
theorem over_r (p q : Rat) (h : Hs) (hq : q ≠ 0) (r : RB 4000 p) (s : RB 4000 q) : f_over [rat p, rat q] h = .ok (rat (p / q)) h := by
  rw [f_over_e]
  unfold b_over
  have hn : ¬ q.num = 0 := fun z => hq (Rat.num_eq_zero.mp z)
  have m1 := mulOK_b r.1 s.d (by omega)
  have m3 := mulOK_b r.d s.1 (by omega)
  have e := ratio_r (p.num * q.den) (p.den * q.num) h (fun z => (Int.mul_eq_zero.mp z).elim (fun z => by have := den_pos p; omega) hn) (by
    exact Nat.lt_of_lt_of_le (bitsI_mul r.d s.1) (Nat.pow_le_pow_right (by omega) (by omega)))
  rw [rat_div] at e
  simp [oMul_i m1, oMul_i m3, e, hn]
theorem RB.div {m n : Nat} {p q : Rat} (hq : q ≠ 0) (r : RB m p) (s : RB n q) : RB (m + n) (p / q) := by
  rw [← rat_div]
  have hn : ¬ q.num = 0 := fun z => hq (Rat.num_eq_zero.mp z)
  rcases Int.lt_or_gt_of_ne hn with z | z
  · rw [← Rat.neg_divInt_neg]
    refine rb_of ?_ ?_ ?_
    · have := Int.mul_pos (den_pos p) (Int.neg_pos_of_neg z)
      rw [Int.mul_neg] at this
      exact this
    · rw [Int.natAbs_neg]; exact bitsI_mul r.d s.1
    · rw [Int.natAbs_neg]; exact bitsI_mul r.1 s.d
  · exact rb_of (Int.mul_pos (den_pos p) z) (bitsI_mul r.d s.1) (bitsI_mul r.1 s.d)
end Law
end PF
namespace PF
namespace Law
theorem under_r (p q : Rat) (h : Hs) (r : RB 4000 p) (s : RB 4000 q) : f_under [rat p, rat q] h = .ok (.bl (decide (p < q))) h := by
  rw [f_under_e]
  unfold b_under
  have m1 := mulOK_b r.1 s.d (by omega)
  have m2 := mulOK_b s.1 r.d (by omega)
  have e : decide (p.num * (q.den : Int) < q.num * (p.den : Int)) = decide (p < q) := decide_eq_decide.mpr (Rat.lt_iff p q).symm
  simp [oMul_i m1, oMul_i m2, e, gc_same]
end Law
end PF
namespace PF
namespace Law
theorem strcut_gz {d : D} {ρ : Env} {h : Hs} {s : List Nat} (n : Nat) (e : d ρ h = .ok (.str s) h) (hs : s.length ≤ bigL) (p : PF.P) (ep : p ρ h = .ok (some (n : Int)) h) : dGz (dSl d pNo p) ρ h = .ok (.str (s.take n)) h := by
  rw [dGz_e, dSl_e, e, Res.bind_ok, pNo_e, Res.bind_ok, ep, Res.bind_ok, oSl_str hs, cut_hi]
  exact gc_same _
theorem app_gz {a b : D} {ρ : Env} {h : Hs} {A B : List (List Nat)} (ea : a ρ h = .ok (.fl (A.map W.str)) h) (eb : b ρ h = .ok (.fl (B.map W.str)) h) (hl : A.length + B.length ≤ bigL) : dGz (dBin oAdd a b) ρ h = .ok (.fl ((A ++ B).map W.str)) h := by
  rw [dGz_e, dBin_e, ea, Res.bind_ok, eb, Res.bind_ok, oAdd_flfl (by rw [List.length_map, List.length_map]; exact hl), ← List.map_append]
  exact gc_newL (strs_pure _)
theorem one_gz {a : D} {ρ : Env} {h : Hs} {s : List Nat} (ea : a ρ h = .ok (.str s) h) : dGz (dLst (aCons a aNil)) ρ h = .ok (.fl (([s] : List (List Nat)).map W.str)) h :=
  lst_gz (by rw [aCons_e, ea, Res.bind_ok, aNil_e, Res.bind_ok]; rfl) (by simp) rfl
end Law
end PF
namespace PF
namespace Law
def topB (s q : List Nat) : Bool := decide (s.length ≤ q.length) && (q.take s.length == s)
theorem topB_iff {s q : List Nat} : topB s q = true ↔ s <+: q := by
  unfold topB
  rw [Bool.and_eq_true, decide_eq_true_eq, beq_iff_eq, List.prefix_iff_eq_take]
  constructor
  · rintro ⟨_, h⟩; exact h.symm
  · intro h
    refine ⟨?_, h.symm⟩
    have := congrArg List.length h
    rw [List.length_take] at this
    omega
def tops (S : List (List Nat)) (q : List Nat) : List (List Nat) := S.filter fun s => topB s q
theorem bLen_str' {s : List Nat} {h : Hs} (hs : s.length ≤ bigL) : bLen [.str s] h = .ok (.int s.length) h := by simp [bLen, hs]
end Law
end PF
namespace PF
namespace Law
abbrev forksT (t : Tr) := pickK tFork (nodesOf t [])
abbrev endsT (t : Tr) := pickK tEnd (nodesOf t [])
theorem pick_len (k : List Nat) (t : Tr) (p : List Nat) : (pickK k (nodesOf t p)).length ≤ 2 * t.leaves := by
  have := nodes_leaves t
  have := nodesOf_len t p
  have : (pickK k (nodesOf t p)).length ≤ (nodesOf t p).length := by
    unfold pickK
    rw [List.length_map]
    exact List.length_filter_le _ _
  omega
/-- sorted, each once; in the tree; each end beneath just one -/
def isP (t : Tr) (L : List (List Nat)) : Bool := decide (sortS (nub L) = L) && ((L.all fun q => decide (q ∈ forksT t ++ endsT t)) && ((endsT t).all fun q => decide ((tops L q).length = 1)))
theorem strs_eq {A B : List (List Nat)} : (W.fl (A.map W.str) = W.fl (B.map W.str)) ↔ A = B := by
  constructor
  · intro h
    have h := W.fl.inj h
    have inj : ∀ (A B : List (List Nat)), A.map W.str = B.map W.str → A = B := by
      intro A
      induction A with
      | nil => intro B e; cases B with
        | nil => rfl
        | cons b B => cases e
      | cons a A ih => intro B e; cases B with
        | nil => cases e
        | cons b B =>
          have e := List.cons.inj e
          rw [W.str.inj e.1, ih B e.2]
    exact inj A B h
  · rintro rfl; rfl
theorem strs_pl (A : List (List Nat)) : W.pl 1 (.fl (A.map W.str)) = true := by
  show (A.map W.str).all (W.pl 0) = true
  rw [List.all_map]
  exact List.all_eq_true.mpr fun _ _ => rfl
theorem oNe_strs (A B : List (List Nat)) (h : Hs) : oNe (.fl (A.map W.str)) (.fl (B.map W.str)) h = .ok (.bl (!decide (A = B))) h := by
  rw [oNe_pl (n := 1) (by decide) (strs_pl A) (strs_pl B), decide_eq_decide.mpr strs_eq]
theorem oEq_strs (A B : List (List Nat)) (h : Hs) : oEq (.fl (A.map W.str)) (.fl (B.map W.str)) h = .ok (.bl (decide (A = B))) h := by
  rw [oEq_pl (n := 1) (by decide) (strs_pl A) (strs_pl B), decide_eq_decide.mpr strs_eq]
theorem sortset_gz {as : As} {ρ : Env} {h : Hs} {ss : List (List Nat)} (e : as ρ h = .ok [.fl (ss.map W.str)] h) (hl : ss.length < 4000) : dGz (dCall bSortSet as) ρ h = .ok (.fl ((sortS (nub ss)).map W.str)) h := by
  have d : bSortSet [.fl (ss.map W.str)] h = newL ((sortS (nub ss)).map W.str) h := by
    simp [bSortSet, lstOf, strsOf_map, hl]
  rw [dGz_e, dCall_e, e, Res.bind_ok, d]
  exact gc_newL (strs_pure _)
/-- a pruning is one -/
theorem Cut.up : ∀ {t : Tr} {p : List Nat} {L : List (List Nat)}, Cut t p L → L.Pairwise (· < ·) ∧ ∀ q, q ∈ L → p <+: q
  | _, _, _, .here t p => ⟨by simp, fun q h => by rw [List.mem_singleton.mp h]; exact List.prefix_refl _⟩
  | _, p, _, .split a b => by
    obtain ⟨a1, a2⟩ := a.up
    obtain ⟨b1, b2⟩ := b.up
    refine ⟨List.pairwise_append.mpr ⟨b1, a1, fun x hx y hy => lt_ny (b2 x hx) (a2 y hy)⟩, fun q h => ?_⟩
    rcases List.mem_append.mp h with h | h
    · exact (List.prefix_append p sN).trans (b2 q h)
    · exact (List.prefix_append p sY).trans (a2 q h)
theorem nodes_here (t : Tr) (p : List Nat) : (p, kindOf t) ∈ nodesOf t p := by cases t <;> simp [nodesOf, kindOf]
theorem Cut.nodes : ∀ {t : Tr} {p : List Nat} {L : List (List Nat)}, Cut t p L → ∀ q, q ∈ L → ∃ k, (q, k) ∈ nodesOf t p
  | _, _, _, .here t p => fun q h => by rw [List.mem_singleton.mp h]; exact ⟨_, nodes_here t p⟩
  | _, p, _, .split a b => fun q h => by
    rcases List.mem_append.mp h with h | h
    · obtain ⟨k, hk⟩ := b.nodes q h
      exact ⟨k, List.mem_cons_of_mem _ (List.mem_append.mpr (.inl hk))⟩
    · obtain ⟨k, hk⟩ := a.nodes q h
      exact ⟨k, List.mem_cons_of_mem _ (List.mem_append.mpr (.inr hk))⟩
theorem kinds : ∀ (t : Tr) (p : List Nat) (x : Pr), x ∈ nodesOf t p → x.2 = tFork ∨ x.2 = tEnd
  | .en _, p, x, h => by rw [List.mem_singleton.mp h]; exact .inr rfl
  | .fk c t u, p, x, h => by
    rcases List.mem_cons.mp h with rfl | h
    · exact .inl rfl
    · rcases List.mem_append.mp h with h | h
      · exact kinds u _ x h
      · exact kinds t _ x h
theorem mem_pick {k : List Nat} {ps : List Pr} {q : List Nat} : q ∈ pickK k ps ↔ (q, k) ∈ ps := by
  unfold pickK
  rw [List.mem_map]
  constructor
  · rintro ⟨x, hx, rfl⟩
    obtain ⟨h1, h2⟩ := List.mem_filter.mp hx
    rw [← of_decide_eq_true h2]
    exact h1
  · intro h
    exact ⟨(q, k), List.mem_filter.mpr ⟨h, by simp⟩, rfl⟩
theorem mem_known (t : Tr) (q : List Nat) : q ∈ forksT t ++ endsT t ↔ q ∈ (nodesOf t []).map Prod.fst := by
  rw [List.mem_append, mem_pick, mem_pick, List.mem_map]
  constructor
  · rintro (h | h)
    · exact ⟨_, h, rfl⟩
    · exact ⟨_, h, rfl⟩
  · rintro ⟨x, hx, rfl⟩
    rcases kinds t [] x hx with k | k
    · exact .inl (by rw [← k]; exact hx)
    · exact .inr (by rw [← k]; exact hx)
theorem one_top {L : List (List Nat)} (nd : L.Nodup) {s q : List Nat} (hs : s ∈ L) (hq : s <+: q) (un : ∀ r, r ∈ L → r <+: q → r = s) : (tops L q).length = 1 := by
  have e : tops L q = [s] := by
    unfold tops
    have nd2 : (L.filter fun r => topB r q).Nodup := nd.filter _
    have m : ∀ r, r ∈ L.filter (fun r => topB r q) ↔ r = s := fun r => by
      rw [List.mem_filter]
      constructor
      · rintro ⟨h1, h2⟩
        exact un r h1 (topB_iff.mp h2)
      · rintro rfl
        exact ⟨hs, topB_iff.mpr hq⟩
    generalize L.filter (fun r => topB r q) = M at *
    cases M with
    | nil => exact absurd ((m s).mpr rfl) (by simp)
    | cons a M =>
      have ha := (m a).mp (List.mem_cons_self ..)
      subst ha
      cases M with
      | nil => rfl
      | cons b M =>
        have hb := (m b).mp (by simp)
        rw [hb] at nd2
        simp at nd2
  rw [e]; rfl
theorem Cut.apart {t : Tr} {p : List Nat} {L : List (List Nat)} (c : Cut t p L) {q r : List Nat} (hq : q ∈ L) (hr : r ∈ L) (h : q <+: r) : q = r := by
  obtain ⟨F, f⟩ := c.toF
  exact f.facts.2.2.2.1 q r hq hr h
theorem Cut.isP {t : Tr} {L : List (List Nat)} (c : Cut t [] L) : isP t L = true := by
  obtain ⟨u1, u2⟩ := c.up
  unfold Law.isP
  rw [decide_eq_true (up_iff.mpr u1), Bool.true_and, Bool.and_eq_true]
  refine ⟨List.all_eq_true.mpr fun q hq => decide_eq_true ((mem_known t q).mpr ?_), List.all_eq_true.mpr fun q hq => decide_eq_true ?_⟩
  · obtain ⟨k, hk⟩ := c.nodes q hq
    exact List.mem_map.mpr ⟨_, hk, rfl⟩
  · obtain ⟨s, hs, k⟩ := ends_under c q (mem_pick.mp hq)
    refine one_top (up_nodup u1) hs k fun r hr kr => ?_
    rcases List.prefix_or_prefix_of_prefix kr k with h | h
    · exact c.apart hr hs h
    · exact (c.apart hs hr h).symm
theorem ends_cut : ∀ (t : Tr) (p : List Nat), Cut t p (pickK tEnd (nodesOf t p))
  | .en c, p => .here _ _
  | .fk c t u, p => by
    have e : pickK tEnd (nodesOf (.fk c t u) p) = pickK tEnd (nodesOf u (p ++ sN)) ++ pickK tEnd (nodesOf t (p ++ sY)) := by
      unfold pickK
      rw [nodesOf, List.filter_cons_of_neg (by simp), List.filter_append, List.map_append]
    rw [e]
    exact .split (ends_cut t _) (ends_cut u _)
end Law
end PF
namespace PF
namespace Law
theorem pre_ne {p q : List Nat} (h1 : p ++ sY <+: q) (h2 : p ++ sN <+: q) : False := by
  have e1 := List.prefix_iff_eq_take.mp h1
  have e2 := List.prefix_iff_eq_take.mp h2
  have ln : (p ++ sY).length = (p ++ sN).length := by simp
  rw [ln, ← e2] at e1
  have := List.append_cancel_left e1
  exact absurd this (by decide)
end Law
end PF
namespace PF
namespace Law
theorem self_apart' {p q : List Nat} {x : Nat} (h : (p ++ [x]) <+: q) (e : q <+: p) : False := by
  have a := h.length_le
  have b := e.length_le
  rw [List.length_append, List.length_singleton] at a
  omega
/-- at the least link: kept leaves, and the outermost forks met -/
theorem mem_cut {B : Int} (hB : 0 < B) {y z : Rat} (h : y ≤ z) : ∀ (t : Tr) (p : List Nat), (∀ x, x ∈ lnk B y t p → z ≤ x.2) → ∀ q, q ∈ (bst B z t p).2 ↔
    (q ∈ (bst B y t p).2 ∧ ∀ x, x ∈ lnk B y t p → x.2 = z → ¬ x.1 <+: q) ∨ (∃ x, x ∈ lnk B y t p ∧ x.2 = z ∧ x.1 = q ∧ ∀ x', x' ∈ lnk B y t p → x'.2 = z → x'.1 <+: q → x'.1 = q)
  | .en c, p, _, q => by
    have e : lnk B y (.en c) p = [] := rfl
    rw [e]
    constructor
    · intro hq
      exact .inl ⟨hq, fun x hx => by cases hx⟩
    · rintro (⟨hq, _⟩ | ⟨x, hx, _⟩)
      · exact hq
      · cases hx
  | .fk c t u, p, hl, q => by
    have i := ins_next hB h c t u p hl
    by_cases k : ins B y c t u
    · have el : lnk B y (.fk c t u) p = (p, lk B y c t u) :: (lnk B y u (p ++ sN) ++ lnk B y t (p ++ sY)) := by rw [lnk, if_pos k]
      rw [el] at hl ⊢
      have hu : ∀ x, x ∈ lnk B y u (p ++ sN) → z ≤ x.2 := fun x hx => hl x (List.mem_cons_of_mem _ (List.mem_append.mpr (.inl hx)))
      have ht : ∀ x, x ∈ lnk B y t (p ++ sY) → z ≤ x.2 := fun x hx => hl x (List.mem_cons_of_mem _ (List.mem_append.mpr (.inr hx)))
      have pu := lnk_pre B y u (p ++ sN)
      have pt := lnk_pre B y t (p ++ sY)
      have bu : ∀ (w : Rat) r, r ∈ (bst B w u (p ++ sN)).2 → (p ++ sN) <+: r := fun w r hr => by
        obtain ⟨F, f⟩ := (bst_S (B := B) w u (p ++ sN)).cut.toF
        exact f.pre.1 r hr
      have bt : ∀ (w : Rat) r, r ∈ (bst B w t (p ++ sY)).2 → (p ++ sY) <+: r := fun w r hr => by
        obtain ⟨F, f⟩ := (bst_S (B := B) w t (p ++ sY)).cut.toF
        exact f.pre.1 r hr
      have ey : (bst B y (.fk c t u) p).2 = (bst B y u (p ++ sN)).2 ++ (bst B y t (p ++ sY)).2 := by rw [bst_fk, if_pos k]
      rw [ey]
      by_cases k2 : ins B z c t u
      · have ez : (bst B z (.fk c t u) p).2 = (bst B z u (p ++ sN)).2 ++ (bst B z t (p ++ sY)).2 := by rw [bst_fk, if_pos k2]
        have nk : ¬ lk B y c t u = z := fun e => by
          have l := (i.mp k2).2
          rw [e] at l
          exact absurd l Rat.lt_irrefl
        rw [ez, List.mem_append, mem_cut hB h u (p ++ sN) hu q, mem_cut hB h t (p ++ sY) ht q]
        constructor
        · rintro ((⟨h1, h2⟩ | ⟨x, h1, h2, h3, h4⟩) | (⟨h1, h2⟩ | ⟨x, h1, h2, h3, h4⟩))
          · refine .inl ⟨List.mem_append.mpr (.inl h1), fun x hx ex => ?_⟩
            rcases List.mem_cons.mp hx with hx | hx
            · rw [hx] at ex; exact absurd ex nk
            · rcases List.mem_append.mp hx with hx | hx
              · exact h2 x hx ex
              · exact fun w => pre_ne ((pt x hx).trans w) (bu y q h1)
          · refine .inr ⟨x, List.mem_cons_of_mem _ (List.mem_append.mpr (.inl h1)), h2, h3, fun x' hx ex hp => ?_⟩
            rcases List.mem_cons.mp hx with hx | hx
            · rw [hx] at ex; exact absurd ex nk
            · rcases List.mem_append.mp hx with hx | hx
              · exact h4 x' hx ex hp
              · exact (pre_ne ((pt x' hx).trans hp) (by rw [← h3]; exact pu x h1)).elim
          · refine .inl ⟨List.mem_append.mpr (.inr h1), fun x hx ex => ?_⟩
            rcases List.mem_cons.mp hx with hx | hx
            · rw [hx] at ex; exact absurd ex nk
            · rcases List.mem_append.mp hx with hx | hx
              · exact fun w => pre_ne (bt y q h1) ((pu x hx).trans w)
              · exact h2 x hx ex
          · refine .inr ⟨x, List.mem_cons_of_mem _ (List.mem_append.mpr (.inr h1)), h2, h3, fun x' hx ex hp => ?_⟩
            rcases List.mem_cons.mp hx with hx | hx
            · rw [hx] at ex; exact absurd ex nk
            · rcases List.mem_append.mp hx with hx | hx
              · exact (pre_ne (by rw [← h3]; exact pt x h1) ((pu x' hx).trans hp)).elim
              · exact h4 x' hx ex hp
        · rintro (⟨h1, h2⟩ | ⟨x, h1, h2, h3, h4⟩)
          · rcases List.mem_append.mp h1 with h1 | h1
            · exact .inl (.inl ⟨h1, fun x hx => h2 x (List.mem_cons_of_mem _ (List.mem_append.mpr (.inl hx)))⟩)
            · exact .inr (.inl ⟨h1, fun x hx => h2 x (List.mem_cons_of_mem _ (List.mem_append.mpr (.inr hx)))⟩)
          · rcases List.mem_cons.mp h1 with h1 | h1
            · rw [h1] at h2; exact absurd h2 nk
            · rcases List.mem_append.mp h1 with h1 | h1
              · exact .inl (.inr ⟨x, h1, h2, h3, fun x' hx => h4 x' (List.mem_cons_of_mem _ (List.mem_append.mpr (.inl hx)))⟩)
              · exact .inr (.inr ⟨x, h1, h2, h3, fun x' hx => h4 x' (List.mem_cons_of_mem _ (List.mem_append.mpr (.inr hx)))⟩)
      · have ez : (bst B z (.fk c t u) p).2 = [p] := by rw [bst_fk, if_neg k2]
        have ek : lk B y c t u = z := by
          have a : ¬ z < lk B y c t u := fun w => k2 (i.mpr ⟨k, w⟩)
          exact Rat.le_antisymm (Rat.not_lt.mp a) (hl _ (List.mem_cons_self ..))
        have under : ∀ x, x ∈ lnk B y u (p ++ sN) ++ lnk B y t (p ++ sY) → ¬ x.1 <+: p := fun x hx w => by
          rcases List.mem_append.mp hx with hx | hx
          · exact self_apart' (pu x hx) w
          · exact self_apart' (pt x hx) w
        rw [ez, List.mem_singleton]
        constructor
        · intro e
          rw [e]
          refine .inr ⟨_, List.mem_cons_self .., ek, rfl, fun x' hx ex hp => ?_⟩
          rcases List.mem_cons.mp hx with hx | hx
          · rw [hx]
          · exact absurd hp (under x' hx)
        · rintro (⟨h1, h2⟩ | ⟨x, h1, h2, h3, h4⟩)
          · exfalso
            refine h2 _ (List.mem_cons_self ..) ek ?_
            rcases List.mem_append.mp h1 with h1 | h1
            · exact (List.prefix_append p sN).trans (bu y q h1)
            · exact (List.prefix_append p sY).trans (bt y q h1)
          · have e := h4 _ (List.mem_cons_self ..) ek (by
              rw [← h3]
              rcases List.mem_cons.mp h1 with h1 | h1
              · rw [h1]; exact List.prefix_refl _
              · rcases List.mem_append.mp h1 with h1 | h1
                · exact (List.prefix_append p sN).trans (pu x h1)
                · exact (List.prefix_append p sY).trans (pt x h1))
            exact e.symm
    · have el : lnk B y (.fk c t u) p = [] := by rw [lnk, if_neg k]
      have ey : (bst B y (.fk c t u) p).2 = [p] := by rw [bst_fk, if_neg k]
      have ez : (bst B z (.fk c t u) p).2 = [p] := by rw [bst_fk, if_neg fun n => k (i.mp n).1]
      rw [el, ey, ez]
      constructor
      · intro hq
        exact .inl ⟨hq, fun x hx => by cases hx⟩
      · rintro (⟨hq, _⟩ | ⟨x, hx, _⟩)
        · exact hq
        · cases hx
theorem lnk_nodup (B : Int) (y : Rat) : ∀ (t : Tr) (p : List Nat), ((lnk B y t p).map Prod.fst).Nodup
  | .en _, p => by rw [lnk]; simp
  | .fk c t u, p => by
    rw [lnk]
    split
    · have pu := lnk_pre B y u (p ++ sN)
      have pt := lnk_pre B y t (p ++ sY)
      rw [List.map_cons, List.map_append]
      refine List.nodup_cons.mpr ⟨fun m => ?_, List.nodup_append.mpr ⟨lnk_nodup B y u _, lnk_nodup B y t _, fun a ha b hb e => ?_⟩⟩
      · rcases List.mem_append.mp m with m | m
        · obtain ⟨x, hx, e⟩ := List.mem_map.mp m
          exact self_apart' (pu x hx) (by rw [e]; exact List.prefix_refl _)
        · obtain ⟨x, hx, e⟩ := List.mem_map.mp m
          exact self_apart' (pt x hx) (by rw [e]; exact List.prefix_refl _)
      · obtain ⟨x, hx, ex⟩ := List.mem_map.mp ha
        obtain ⟨x', hx', ex'⟩ := List.mem_map.mp hb
        have h1 := pu x hx
        have h2 := pt x' hx'
        rw [ex, e] at h1
        rw [ex'] at h2
        exact pre_ne h2 h1
    · simp
theorem tops_none {S : List (List Nat)} {q : List Nat} : (tops S q).length = 0 ↔ ∀ o, o ∈ S → ¬ o <+: q := by
  unfold tops
  rw [List.length_eq_zero_iff, List.filter_eq_nil_iff]
  exact ⟨fun h o ho z => h o ho (topB_iff.mpr z), fun h o ho z => h o ho (topB_iff.mp z)⟩
theorem tops_one {S : List (List Nat)} {o : List Nat} (nd : S.Nodup) (ho : o ∈ S) : (tops S o).length = 1 ↔ ∀ r, r ∈ S → r <+: o → r = o := by
  have hm : o ∈ tops S o := List.mem_filter.mpr ⟨ho, topB_iff.mpr (List.prefix_refl _)⟩
  constructor
  · intro h r hr hp
    obtain ⟨x, hx⟩ := List.length_eq_one_iff.mp h
    have h1 : r ∈ tops S o := List.mem_filter.mpr ⟨hr, topB_iff.mpr hp⟩
    rw [hx] at hm h1
    rw [List.mem_singleton.mp hm, List.mem_singleton.mp h1]
  · intro h
    have n2 : (tops S o).Nodup := nd.sublist List.filter_sublist
    have : (tops S o).Perm [o] := (List.perm_ext_iff_of_nodup n2 (by simp)).mpr fun r => by
      rw [List.mem_singleton]
      exact ⟨fun z => h r (List.mem_filter.mp z).1 (topB_iff.mp (List.mem_filter.mp z).2), fun z => z ▸ hm⟩
    rw [this.length_eq]; rfl
def keptP (L S : List (List Nat)) : List (List Nat) := L.filter fun q => decide ((tops S q).length = 0)
def outerP (S : List (List Nat)) : List (List Nat) := S.filter fun o => decide ((tops S o).length = 1)
def cutP (L S : List (List Nat)) : List (List Nat) := sortS (keptP L S ++ outerP S)
/-- the forks met at a price -/
def metP (B : Int) (y z : Rat) (t : Tr) : List (List Nat) := ((lnk B y t []).filter fun x => decide (x.2 = z)).map Prod.fst
theorem mem_met {B : Int} {y z : Rat} {t : Tr} {o : List Nat} : o ∈ metP B y z t ↔ ∃ x, x ∈ lnk B y t [] ∧ x.2 = z ∧ x.1 = o := by
  unfold metP
  rw [List.mem_map]
  constructor
  · rintro ⟨x, hx, e⟩
    obtain ⟨h1, h2⟩ := List.mem_filter.mp hx
    exact ⟨x, h1, of_decide_eq_true h2, e⟩
  · rintro ⟨x, h1, h2, e⟩
    exact ⟨x, List.mem_filter.mpr ⟨h1, decide_eq_true h2⟩, e⟩
theorem cut_next {B : Int} (hB : 0 < B) {y z : Rat} (h : y ≤ z) (t : Tr) (hl : ∀ x, x ∈ lnk B y t [] → z ≤ x.2) : cutP (bst B y t []).2 (metP B y z t) = (bst B z t []).2 := by
  have up := (bst_S (B := B) z t []).cut.up.1
  have upy := (bst_S (B := B) y t []).cut.up.1
  have nd : (metP B y z t).Nodup := (lnk_nodup B y t []).sublist (List.filter_sublist.map Prod.fst)
  unfold cutP
  refine (sortS_of ?_ (up.imp lt_le)).symm
  have n1 : (keptP (bst B y t []).2 (metP B y z t) ++ outerP (metP B y z t)).Nodup := List.nodup_append.mpr ⟨(up_nodup upy).sublist List.filter_sublist, nd.sublist List.filter_sublist, fun a ha b hb e => by
    have h1 := tops_none.mp (of_decide_eq_true (List.mem_filter.mp ha).2)
    have h2 := (List.mem_filter.mp hb).1
    exact h1 b h2 (by rw [e]; exact List.prefix_refl _)⟩
  refine (List.perm_ext_iff_of_nodup (up_nodup up) n1).mpr fun q => ?_
  rw [mem_cut hB h t [] hl q, List.mem_append]
  unfold keptP outerP
  rw [List.mem_filter, List.mem_filter]
  constructor
  · rintro (⟨h1, h2⟩ | ⟨x, h1, h2, h3, h4⟩)
    · refine .inl ⟨h1, decide_eq_true (tops_none.mpr fun o ho => ?_)⟩
      obtain ⟨x, x1, x2, x3⟩ := mem_met.mp ho
      rw [← x3]
      exact h2 x x1 x2
    · have m : q ∈ metP B y z t := mem_met.mpr ⟨x, h1, h2, h3⟩
      refine .inr ⟨m, decide_eq_true ((tops_one nd m).mpr fun r hr hp => ?_)⟩
      obtain ⟨x', x1, x2, x3⟩ := mem_met.mp hr
      rw [← x3] at hp ⊢
      exact h4 x' x1 x2 hp
  · rintro (⟨h1, h2⟩ | ⟨h1, h2⟩)
    · have h2 := tops_none.mp (of_decide_eq_true h2)
      exact .inl ⟨h1, fun x hx ex => h2 x.1 (mem_met.mpr ⟨x, hx, ex, rfl⟩)⟩
    · have h2 := (tops_one nd h1).mp (of_decide_eq_true h2)
      obtain ⟨x, x1, x2, x3⟩ := mem_met.mp h1
      exact .inr ⟨x, x1, x2, x3, fun x' hx ex hp => h2 x'.1 (mem_met.mpr ⟨x', hx, ex, rfl⟩) hp⟩
end Law
end PF
namespace PF
namespace Law
def lkW (x : List Nat × Rat) : W := .tup [.str x.1, rat x.2]
theorem lkW_pure (x : List Nat × Rat) : (lkW x).pure = true := rfl
theorem lks_pure (l : List (List Nat × Rat)) : (W.fl (l.map lkW)).pure = true := by
  rw [W.pure]; exact pures_map fun x _ => lkW_pure x
theorem lnk_len (B : Int) (y : Rat) : ∀ (t : Tr) (p : List Nat), (lnk B y t p).length + 1 = bn B y t
  | .en _, p => rfl
  | .fk c t u, p => by
    rw [lnk, bn_fk]
    split
    · rw [List.length_cons, List.length_append]
      have := lnk_len B y t (p ++ sY)
      have := lnk_len B y u (p ++ sN)
      omega
    · rfl
theorem bn_le (B : Int) (y : Rat) (t : Tr) : bn B y t ≤ t.leaves := ((bst_S (B := B) y t []).cut.len).2
theorem bsm_sz {B : Int} (y : Rat) {t : Tr} (hl : t.leaves ≤ 100) (tc : t.costs (2 ^ 105)) : (bsm B y t).natAbs < 2 ^ 112 := by
  have sz := (bst_S (B := B) y t []).sz tc
  have ln := bn_le B y t
  unfold bn at ln
  generalize (bst B y t []).2.length = n at *
  have : (n : Int) * 2 ^ 105 ≤ 100 * 2 ^ 105 := Int.mul_le_mul_of_nonneg_right (by omega) (by omega)
  omega
theorem lk_rb {B : Int} (hB : 0 < B ∧ B < 2 ^ 100) (y : Rat) {c : Int} {t u : Tr} (hl : t.leaves + u.leaves ≤ 100) (tc : (Tr.fk c t u).costs (2 ^ 105)) : RB 400 (lk B y c t u) := by
  have sz : -(2 ^ 105) ≤ c ∧ c ≤ 2 ^ 105 := tc.1
  have s1 := bsm_sz (B := B) y (by omega) tc.2.1
  have s2 := bsm_sz (B := B) y (by omega) tc.2.2
  have n1 := bn_pos B y t
  have n2 := bn_pos B y u
  have m1 := bn_le B y t
  have m2 := bn_le B y u
  have r1 : RB 113 (Rat.divInt c B) := rb_of hB.1 (by omega) (by omega)
  have r2 : RB 113 (Rat.divInt (bsm B y t + bsm B y u) B) := rb_of hB.1 (by omega) (by omega)
  have r3 : RB 20 ((((bn B y t + bn B y u : Nat) : Int) - 1 : Int) : Rat) := ⟨by show ((((bn B y t + bn B y u : Nat) : Int) - 1 : Int)).natAbs < 2 ^ 20; omega, by show 1 < 2 ^ 20; omega⟩
  have nz : ((((bn B y t + bn B y u : Nat) : Int) - 1 : Int) : Rat) ≠ 0 := fun e => by
    have e2 : ((((bn B y t + bn B y u : Nat) : Int) - 1 : Int) : Rat) = ((0 : Int) : Rat) := e
    have := Rat.intCast_inj.mp e2
    omega
  exact ((r1.sub r2).div nz r3).le (by omega)
theorem lnk_rb {B : Int} (hB : 0 < B ∧ B < 2 ^ 100) (y : Rat) : ∀ (t : Tr) (p : List Nat), t.leaves ≤ 100 → t.costs (2 ^ 105) → ∀ x, x ∈ lnk B y t p → RB 400 x.2
  | .en _, p, _, _, x, h => by rw [lnk] at h; cases h
  | .fk c t u, p, hl, tc, x, h => by
    have hv : (Tr.fk c t u).leaves = t.leaves + u.leaves := rfl
    rw [hv] at hl
    rw [lnk] at h
    split at h
    · rcases List.mem_cons.mp h with h | h
      · rw [h]; exact lk_rb hB y hl tc
      · rcases List.mem_append.mp h with h | h
        · exact lnk_rb hB y u _ (by omega) tc.2.2 x h
        · exact lnk_rb hB y t _ (by omega) tc.2.1 x h
    · cases h
theorem linked_e (B : Int) (hB : 0 < B ∧ B < 2 ^ 100) (y : Rat) (L : List (List Nat)) : ∀ (t : Tr) (n : Nat) (p : List Nat) (h : Hs), t.high < n → p.length + t.high < 1000 → t.leaves ≤ 100 → t.costs (2 ^ 105) → (∀ q, p <+: q → (q ∈ L ↔ q ∈ (bst B y t p).2)) →
    f_linked_under n [trF (fun c => rat (Rat.divInt c B)) t, .fl (L.map W.str), .str p] h = .ok (.tup [rat (Rat.divInt (bsm B y t) B), .int (bn B y t), .fl ((lnk B y t p).map lkW)]) h := by
  -- where the place is a leaf
  have leaf : ∀ (t : Tr) (n : Nat) (p : List Nat) (h : Hs), p ∈ L → f_linked_under (n + 1) [trF (fun c => rat (Rat.divInt c B)) t, .fl (L.map W.str), .str p] h = .ok (.tup [rat (Rat.divInt (tcost t) B), .int 1, .fl []]) h := fun t n p h m => by
    rw [f_linked_under_e]
    unfold b_linked_under
    have t1 := trg1 (fun c => rat (Rat.divInt c B)) t
    have oi := oIn_strs (h := h) p L
    rw [decide_eq_true m] at oi
    generalize trF (fun c => rat (Rat.divInt c B)) t = TW at *
    generalize L.map W.str = LW at *
    have lz : dGz (dLst aNil) [some TW, some (.fl LW), some (.str p), none, none, none, none, none, none, none, none, none] h = .ok (.fl []) h := lst_gz rfl (by simp) rfl
    have e : sIf (tVal (dBin oIn (dV 2) (dV 1))) (sRet (dTup (aCons (dBin oIx (dV 0) (dC (.int 1))) (aCons (dC (.int 1)) (aCons (dGz (dLst (aNil))) (aNil)))))) (sNx) [some TW, some (.fl LW), some (.str p), none, none, none, none, none, none, none, none, none] h = .ret (.tup [rat (Rat.divInt (tcost t) B), .int 1, .fl []]) h := by
      simp only [sIf_e, tVal_e, dBin_e, dV_2, dV_1, Res.bind_ok, oi, asB_b, onR_ok, if_true, sRet_e, dTup_e, aCons_e, aNil_e, dV_0, dC_e, t1, lz, List.length_cons, List.length_nil, Nat.zero_add, Nat.reduceAdd, big_lit3]
    rw [sSeq_t, e]
    exact gc_same _
  intro t
  induction t with
  | en c =>
    intro n p h hn hp hl tc hL
    obtain ⟨m, rfl⟩ : ∃ m, n = m + 1 := ⟨n - 1, by omega⟩
    have m : p ∈ L := (hL p (List.prefix_refl _)).mpr (List.mem_singleton.mpr rfl)
    exact leaf (.en c) _ p h m
  | fk c t u iht ihu =>
    intro n p h hn hp hl tc hL
    obtain ⟨n, rfl⟩ : ∃ m, n = m + 1 := ⟨n - 1, by omega⟩
    by_cases k : ins B y c t u
    · have ey : (bst B y (.fk c t u) p).2 = (bst B y u (p ++ sN)).2 ++ (bst B y t (p ++ sY)).2 := by rw [bst_fk, if_pos k]
      rw [ey] at hL
      have bu : ∀ r, r ∈ (bst B y u (p ++ sN)).2 → (p ++ sN) <+: r := fun r hr => by
        obtain ⟨F, f⟩ := (bst_S (B := B) y u (p ++ sN)).cut.toF
        exact f.pre.1 r hr
      have bt : ∀ r, r ∈ (bst B y t (p ++ sY)).2 → (p ++ sY) <+: r := fun r hr => by
        obtain ⟨F, f⟩ := (bst_S (B := B) y t (p ++ sY)).cut.toF
        exact f.pre.1 r hr
      have nm : ¬ p ∈ L := fun m => by
        rcases List.mem_append.mp ((hL p (List.prefix_refl _)).mp m) with m | m
        · exact self_apart' (bu p m) (List.prefix_refl _)
        · exact self_apart' (bt p m) (List.prefix_refl _)
      have hh : (Tr.fk c t u).high = 1 + max t.high u.high := rfl
      have hv : (Tr.fk c t u).leaves = t.leaves + u.leaves := rfl
      rw [hh] at hn hp
      rw [hv] at hl
      have lt := t.leaves_pos
      have lu := u.leaves_pos
      have r1 := iht n (p ++ sY) h (by omega) (by simp; omega) (by omega) tc.2.1 fun q hq => by
        rw [hL q ((List.prefix_append p sY).trans hq), List.mem_append]
        exact ⟨fun m => m.elim (fun m => (pre_ne hq (bu q m)).elim) id, .inr⟩
      have r2 := ihu n (p ++ sN) h (by omega) (by simp; omega) (by omega) tc.2.2 fun q hq => by
        rw [hL q ((List.prefix_append p sN).trans hq), List.mem_append]
        exact ⟨fun m => m.elim id (fun m => (pre_ne (bt q m) hq).elim), .inl⟩
      have sz : -(2 ^ 105) ≤ c ∧ c ≤ 2 ^ 105 := tc.1
      have s1 := bsm_sz (B := B) y (by omega) tc.2.1
      have s2 := bsm_sz (B := B) y (by omega) tc.2.2
      have n1 := bn_pos B y t
      have n2 := bn_pos B y u
      have m1 := bn_le B y t
      have m2 := bn_le B y u
      have q1 := lnk_len B y t (p ++ sY)
      have q2 := lnk_len B y u (p ++ sN)
      have ps := plus_r (Rat.divInt (bsm B y t) B) (Rat.divInt (bsm B y u) B) h ((rb_of (n := 120) hB.1 (by omega) (by omega)).le (by omega)) ((rb_of (n := 120) hB.1 (by omega) (by omega)).le (by omega))
      rw [div_sum hB.1] at ps
      have mi := minus_r (Rat.divInt c B) (Rat.divInt (bsm B y t + bsm B y u) B) h ((rb_of (n := 120) hB.1 (by omega) (by omega)).le (by omega)) ((rb_of (n := 120) hB.1 (by omega) (by omega)).le (by omega))
      have r3 : RB 20 ((((bn B y t + bn B y u : Nat) : Int) - 1 : Int) : Rat) := ⟨by show ((((bn B y t + bn B y u : Nat) : Int) - 1 : Int)).natAbs < 2 ^ 20; omega, by show 1 < 2 ^ 20; omega⟩
      have nz : ((((bn B y t + bn B y u : Nat) : Int) - 1 : Int) : Rat) ≠ 0 := fun e => by
        have e2 : ((((bn B y t + bn B y u : Nat) : Int) - 1 : Int) : Rat) = ((0 : Int) : Rat) := e
        have := Rat.intCast_inj.mp e2
        omega
      have rd : RB 300 (Rat.divInt c B - Rat.divInt (bsm B y t + bsm B y u) B) := ((rb_of (n := 113) hB.1 (by omega) (by omega)).sub (rb_of (n := 113) hB.1 (by omega) (by omega))).le (by omega)
      have ov := over_r (Rat.divInt c B - Rat.divInt (bsm B y t + bsm B y u) B) ((((bn B y t + bn B y u : Nat) : Int) - 1 : Int) : Rat) h nz (rd.le (by omega)) (r3.le (by omega))
      have elk : (Rat.divInt c B - Rat.divInt (bsm B y t + bsm B y u) B) / ((((bn B y t + bn B y u : Nat) : Int) - 1 : Int) : Rat) = lk B y c t u := rfl
      rw [elk] at ov
      have ri : rat ((((bn B y t + bn B y u : Nat) : Int) - 1 : Int) : Rat) = .tup [.int (((bn B y t + bn B y u : Nat) : Int) - 1), .int 1] := rfl
      rw [ri, Int.natCast_add] at ov
      rw [bsm_fk, if_pos k, bn_fk, if_pos k, lnk, if_pos k, Int.natCast_add]
      rw [f_linked_under_e]
      unfold b_linked_under
      have t1 := trg1 (fun c => rat (Rat.divInt c B)) (.fk c t u)
      have t1 : ∀ h, oIx (trF (fun c => rat (Rat.divInt c B)) (.fk c t u)) (.int 1) h = .ok (rat (Rat.divInt c B)) h := t1
      have t2 : ∀ h, oIx (trF (fun c => rat (Rat.divInt c B)) (.fk c t u)) (.int 2) h = .ok (trF (fun c => rat (Rat.divInt c B)) t) h := fun h => oIx_tup (k := 2) rfl
      have t3 : ∀ h, oIx (trF (fun c => rat (Rat.divInt c B)) (.fk c t u)) (.int 3) h = .ok (trF (fun c => rat (Rat.divInt c B)) u) h := fun h => oIx_tup (k := 3) rfl
      have oi := oIn_strs (h := h) p L
      rw [decide_eq_false nm] at oi
      have pY : ∀ h, oAdd (.str p) (.str [121]) h = .ok (.str (p ++ sY)) h := fun h => oAdd_str (by unfold bigL; simp; omega)
      have pN : ∀ h, oAdd (.str p) (.str [110]) h = .ok (.str (p ++ sN)) h := fun h => oAdd_str (by unfold bigL; simp; omega)
      generalize trF (fun c => rat (Rat.divInt c B)) (.fk c t u) = TW at *
      generalize trF (fun c => rat (Rat.divInt c B)) t = TT at *
      generalize trF (fun c => rat (Rat.divInt c B)) u = TU at *
      generalize L.map W.str = LW at *
      obtain ⟨A, hA⟩ : ∃ A, A = lnk B y t (p ++ sY) := ⟨_, rfl⟩
      obtain ⟨C, hC⟩ : ∃ C, C = lnk B y u (p ++ sN) := ⟨_, rfl⟩
      rw [← hA] at r1 q1 ⊢
      rw [← hC] at r2 q2 ⊢
      generalize lk B y c t u = own at *
      obtain ⟨nt, hnt⟩ : ∃ nt : Int, nt = bn B y t := ⟨_, rfl⟩
      obtain ⟨nu, hnu⟩ : ∃ nu : Int, nu = bn B y u := ⟨_, rfl⟩
      rw [← hnt] at r1 ov ⊢
      rw [← hnu] at r2 ov ⊢
      generalize Rat.divInt (bsm B y t) B = dt at *
      generalize Rat.divInt (bsm B y u) B = du at *
      generalize Rat.divInt (bsm B y t + bsm B y u) B = ds at *
      rw [seq_nx (ρ1 := [some TW, some (.fl LW), some (.str p), none, none, none, none, none, none, none, none, none]) (h1 := h) (by
        simp only [sIf_e, tVal_e, dBin_e, dV_2, dV_1, Res.bind_ok, oi, asB_b, onR_ok, Bool.false_eq_true, if_false, sNx_e])]
      rw [seq_nx (ρ1 := [some TW, some (.fl LW), some (.str p), some (rat dt), some (.int nt), some (.fl (A.map lkW)), none, none, none, none, none, none]) (h1 := h) (by
        simp only [sAsg_e, dCall_e, aCons_e, aNil_e, dBin_e, dV_0, dV_1, dV_2, dC_e, Res.bind_ok, t2, pY, r1]; rfl)]
      rw [seq_nx (ρ1 := [some TW, some (.fl LW), some (.str p), some (rat dt), some (.int nt), some (.fl (A.map lkW)), some (rat du), some (.int nu), some (.fl (C.map lkW)), none, none, none]) (h1 := h) (by
        simp only [sAsg_e, dCall_e, aCons_e, aNil_e, dBin_e, dV_0, dV_1, dV_2, dC_e, Res.bind_ok, t3, pN, r2]; rfl)]
      rw [seq_nx (ρ1 := [some TW, some (.fl LW), some (.str p), some (rat dt), some (.int nt), some (.fl (A.map lkW)), some (rat du), some (.int nu), some (.fl (C.map lkW)), some (rat ds), none, none]) (h1 := h) (by
        simp only [sAsg_e, dCall_e, aCons_e, aNil_e, dV_3, dV_6, Res.bind_ok, ps]; rfl)]
      rw [seq_nx (ρ1 := [some TW, some (.fl LW), some (.str p), some (rat dt), some (.int nt), some (.fl (A.map lkW)), some (rat du), some (.int nu), some (.fl (C.map lkW)), some (rat ds), some (.int (nt + nu)), none]) (h1 := h) (by
        simp only [sAsg_e, dBin_e, dV_4, dV_7, Res.bind_ok, oAdd_i]; rfl)]
      have v9 : ∀ w h, dV 9 [some TW, some (.fl LW), some (.str p), some (rat dt), some (.int nt), some (.fl (A.map lkW)), some (rat du), some (.int nu), some (.fl (C.map lkW)), some (rat ds), some (.int (nt + nu)), w] h = .ok (rat ds) h := fun _ _ => rfl
      have v10 : ∀ w h, dV 10 [some TW, some (.fl LW), some (.str p), some (rat dt), some (.int nt), some (.fl (A.map lkW)), some (rat du), some (.int nu), some (.fl (C.map lkW)), some (rat ds), some (.int (nt + nu)), w] h = .ok (.int (nt + nu)) h := fun _ _ => rfl
      rw [seq_nx (ρ1 := [some TW, some (.fl LW), some (.str p), some (rat dt), some (.int nt), some (.fl (A.map lkW)), some (rat du), some (.int nu), some (.fl (C.map lkW)), some (rat ds), some (.int (nt + nu)), some (rat own)]) (h1 := h) (by
        simp only [sAsg_e, dCall_e, dTup_e, aCons_e, aNil_e, dBin_e, dV_0, v9, v10, dC_e, Res.bind_ok, t1, mi, oSub_i, List.length_cons, List.length_nil, Nat.zero_add, Nat.reduceAdd, big_lit2, if_true, ov]; rfl)]
      have v11 : ∀ h, dV 11 [some TW, some (.fl LW), some (.str p), some (rat dt), some (.int nt), some (.fl (A.map lkW)), some (rat du), some (.int nu), some (.fl (C.map lkW)), some (rat ds), some (.int (nt + nu)), some (rat own)] h = .ok (rat own) h := fun _ => rfl
      have v8 : ∀ h, dV 8 [some TW, some (.fl LW), some (.str p), some (rat dt), some (.int nt), some (.fl (A.map lkW)), some (rat du), some (.int nu), some (.fl (C.map lkW)), some (rat ds), some (.int (nt + nu)), some (rat own)] h = .ok (.fl (C.map lkW)) h := fun _ => rfl
      have z1 : dGz (dLst (aCons (dTup (aCons (dV 2) (aCons (dV 11) (aNil)))) (aNil))) [some TW, some (.fl LW), some (.str p), some (rat dt), some (.int nt), some (.fl (A.map lkW)), some (rat du), some (.int nu), some (.fl (C.map lkW)), some (rat ds), some (.int (nt + nu)), some (rat own)] h = .ok (.fl ([(p, own)].map lkW)) h := lst_gz (by
        simp only [aCons_e, aNil_e, dTup_e, dV_2, v11, Res.bind_ok, List.length_cons, List.length_nil, Nat.zero_add, Nat.reduceAdd, big_lit2, if_true]; rfl) (by simp) rfl
      have z2 : dGz (dBin oAdd (dGz (dLst (aCons (dTup (aCons (dV 2) (aCons (dV 11) (aNil)))) (aNil)))) (dV 8)) [some TW, some (.fl LW), some (.str p), some (rat dt), some (.int nt), some (.fl (A.map lkW)), some (rat du), some (.int nu), some (.fl (C.map lkW)), some (rat ds), some (.int (nt + nu)), some (rat own)] h = .ok (.fl (((p, own) :: C).map lkW)) h := by
        rw [dGz_e, dBin_e, z1, Res.bind_ok, v8, Res.bind_ok, oAdd_flfl (by rw [List.length_map, List.length_map, List.length_singleton]; unfold bigL; omega), ← List.map_append]
        exact gc_newL (pures_map fun x _ => lkW_pure x)
      have z3 : dGz (dBin oAdd (dGz (dBin oAdd (dGz (dLst (aCons (dTup (aCons (dV 2) (aCons (dV 11) (aNil)))) (aNil)))) (dV 8))) (dV 5)) [some TW, some (.fl LW), some (.str p), some (rat dt), some (.int nt), some (.fl (A.map lkW)), some (rat du), some (.int nu), some (.fl (C.map lkW)), some (rat ds), some (.int (nt + nu)), some (rat own)] h = .ok (.fl (((p, own) :: (C ++ A)).map lkW)) h := by
        rw [dGz_e, dBin_e, z2, Res.bind_ok, dV_5, Res.bind_ok, oAdd_flfl (by rw [List.length_map, List.length_map, List.length_cons]; unfold bigL; omega), ← List.map_append]
        exact gc_newL (pures_map fun x _ => lkW_pure x)
      simp only [sRet_e, dTup_e, aCons_e, aNil_e, v9, v10, z3, Res.bind_ok, List.length_cons, List.length_nil, Nat.zero_add, Nat.reduceAdd, big_lit3, if_true, onR_ok, endF_ret]
      exact gc_same _
    · have ey : (bst B y (.fk c t u) p).2 = [p] := by rw [bst_fk, if_neg k]
      have m : p ∈ L := (hL p (List.prefix_refl _)).mpr (by rw [ey]; exact List.mem_singleton.mpr rfl)
      rw [bsm_fk, if_neg k, bn_fk, if_neg k, lnk, if_neg k]
      exact leaf (.fk c t u) _ p h m
end Law
end PF
namespace PF
namespace Law
theorem topsof_e (S : List (List Nat)) (q : List Nat) (hS : S.length < 1000) (h : Hs) : f_tops_of [.fl (S.map W.str), .str q] h = .ok (.fl ((tops S q).map W.str)) h := by
  rw [f_tops_of_e]
  unfold b_tops_of
  have cz := comp_gz (it := iAny (dV 0)) (tg := .n 2) (t := tVal (dMeth .str mStarts (dV 1) (aCons (dV 2) (aNil)))) (e := dV 2) (own := [2]) (ρ := [some (.fl (S.map W.str)), some (.str q), none]) (h := h) W.str W.str (fun s => topB s q) S (iAny_fl rfl) (fun _ => stays_fl) (by unfold bigL; omega) (fun _ _ _ => rfl) (fun s _ => by
    refine ⟨_, rfl, fun acc => ?_⟩
    simp [wipe, dMeth_e, kdOf, mStarts, topB])
  rw [sRet_e, cz, onR_ok, endF_ret]
  exact gc_same _
end Law
end PF
namespace PF
namespace Law
theorem tup2_pure (q : Rat) (L : List (List Nat)) : (W.tup [rat q, .fl (L.map W.str)]).pure = true := by
  have e : (W.fl (L.map W.str)).pure = true := by rw [W.pure]; exact strs_pure L
  rw [W.pure, pures_cons, pures_cons, e]; rfl
theorem fl_pure (L : List (List Nat)) : (W.fl (L.map W.str)).pure = true := by rw [W.pure]; exact strs_pure L
theorem best_e (B : Int) (hB : 0 < B ∧ B < 2 ^ 100) (y : Rat) (ry : RB 900 y) : ∀ (t : Tr) (n : Nat) (p : List Nat) (h : Hs), t.high < n → p.length + t.high < 1000 → t.leaves ≤ 100 → t.costs (2 ^ 105) →
    f_best_under n [trF (fun c => rat (Rat.divInt c B)) t, rat y, .str p] h = .ok (.tup [rat (bst B y t p).1, .fl ((bst B y t p).2.map W.str)]) h
  | .en c, n + 1, p, h, _, _, _, tc => by
    rw [f_best_under_e]
    unfold b_best_under
    have sz := tcost_sz tc
    have sz : -(2 ^ 105) ≤ c ∧ c ≤ 2 ^ 105 := sz
    have t0 := trg0 (fun c => rat (Rat.divInt c B)) (.en c)
    have t1 := trg1 (fun c => rat (Rat.divInt c B)) (.en c)
    have pl := plus_r (Rat.divInt c B) y h ((rb_of (n := 120) hB.1 (by omega) (by omega)).le (by omega)) (ry.le (by omega))
    have t1 : ∀ h, oIx (trF (fun c => rat (Rat.divInt c B)) (.en c)) (.int 1) h = .ok (rat (Rat.divInt c B)) h := t1
    have k0 : ∀ h, oEq (.str (kindOf (.en c))) (.str [101, 110, 100]) h = .ok (.bl true) h := fun h => rfl
    have lz : dGz (dLst (aCons (dV 2) (aNil))) [some (trF (fun c => rat (Rat.divInt c B)) (.en c)), some (rat y), some (.str p), some (rat (Rat.divInt c B + y)), none, none, none, none, none] h = .ok (.fl [.str p]) h := lst_gz rfl (by simp) rfl
    rw [seq_nx (ρ1 := [some (trF (fun c => rat (Rat.divInt c B)) (.en c)), some (rat y), some (.str p), some (rat (Rat.divInt c B + y)), none, none, none, none, none]) (h1 := h) (by
      simp only [sAsg_e, dCall_e, aCons_e, aNil_e, dBin_e, dV_0, dV_1, dC_e, Res.bind_ok, t1, pl]; rfl)]
    have e : sIf (tVal (dBin oEq (dBin oIx (dV 0) (dC (.int 0))) (dC (.str [101, 110, 100])))) (sRet (dTup (aCons (dV 3) (aCons (dGz (dLst (aCons (dV 2) (aNil)))) (aNil))))) (sNx) [some (trF (fun c => rat (Rat.divInt c B)) (.en c)), some (rat y), some (.str p), some (rat (Rat.divInt c B + y)), none, none, none, none, none] h = .ret (.tup [rat (Rat.divInt c B + y), .fl [.str p]]) h := by
      simp only [sIf_e, tVal_e, dBin_e, dV_0, dC_e, Res.bind_ok, t0, k0, asB_b, onR_ok, if_true, sRet_e, dTup_e, aCons_e, aNil_e, dV_3, lz, List.length_cons, List.length_nil, Nat.zero_add, Nat.reduceAdd, big_lit2]
    rw [sSeq_t, e, bst]
    exact gc_same _
  | .fk c t u, n + 1, p, h, hn, hp, hl, tc => by
    rw [f_best_under_e]
    unfold b_best_under
    have hh : (Tr.fk c t u).high = 1 + max t.high u.high := rfl
    have hv : (Tr.fk c t u).leaves = t.leaves + u.leaves := rfl
    rw [hh] at hn hp
    rw [hv] at hl
    have sz : -(2 ^ 105) ≤ c ∧ c ≤ 2 ^ 105 := tc.1
    have t0 := trg0 (fun c => rat (Rat.divInt c B)) (.fk c t u)
    have t1 : ∀ h, oIx (trF (fun c => rat (Rat.divInt c B)) (.fk c t u)) (.int 1) h = .ok (rat (Rat.divInt c B)) h := trg1 (fun c => rat (Rat.divInt c B)) (.fk c t u)
    have t2 : ∀ h, oIx (trF (fun c => rat (Rat.divInt c B)) (.fk c t u)) (.int 2) h = .ok (trF (fun c => rat (Rat.divInt c B)) t) h := fun h => oIx_tup (k := 2) rfl
    have t3 : ∀ h, oIx (trF (fun c => rat (Rat.divInt c B)) (.fk c t u)) (.int 3) h = .ok (trF (fun c => rat (Rat.divInt c B)) u) h := fun h => oIx_tup (k := 3) rfl
    have k0 : ∀ h, oEq (.str (kindOf (.fk c t u))) (.str [101, 110, 100]) h = .ok (.bl false) h := fun h => rfl
    have pl := plus_r (Rat.divInt c B) y h ((rb_of (n := 120) hB.1 (by omega) (by omega)).le (by omega)) (ry.le (by omega))
    have lt := t.leaves_pos
    have lu := u.leaves_pos
    have r1 := best_e B hB y ry t n (p ++ sY) h (by omega) (by simp; omega) (by omega) tc.2.1
    have r2 := best_e B hB y ry u n (p ++ sN) h (by omega) (by simp; omega) (by omega) tc.2.2
    have b1 := bst_rb hB ry t (p ++ sY) tc.2.1 (by omega)
    have b2 := bst_rb hB ry u (p ++ sN) tc.2.2 (by omega)
    have own : RB 1100 (Rat.divInt c B + y) := ((rb_of (n := 120) hB.1 (by omega) (by omega)).add ry).le (by omega)
    have ps := plus_r (bst B y t (p ++ sY)).1 (bst B y u (p ++ sN)).1 h (b1.le (by omega)) (b2.le (by omega))
    have un := under_r ((bst B y t (p ++ sY)).1 + (bst B y u (p ++ sN)).1) (Rat.divInt c B + y) h ((b1.add b2).le (by omega)) (own.le (by omega))
    obtain ⟨_, cs1, _⟩ := bst_cut hB.1 y t (p ++ sY)
    obtain ⟨_, cs2, _⟩ := bst_cut hB.1 y u (p ++ sN)
    have l1 := cs1.cut.len
    have l2 := cs2.cut.len
    have pY : ∀ h, oAdd (.str p) (.str [121]) h = .ok (.str (p ++ sY)) h := fun h => oAdd_str (by unfold bigL; simp; omega)
    have pN : ∀ h, oAdd (.str p) (.str [110]) h = .ok (.str (p ++ sN)) h := fun h => oAdd_str (by unfold bigL; simp; omega)
    obtain ⟨G, hG⟩ : ∃ G : Int → W, G = fun c => rat (Rat.divInt c B) := ⟨_, rfl⟩
    rw [← hG] at t0 t1 t2 t3 r1 r2 ⊢
    rw [bst]
    obtain ⟨X, hX⟩ : ∃ X, X = bst B y t (p ++ sY) := ⟨_, rfl⟩
    obtain ⟨Z, hZ⟩ : ∃ Z, Z = bst B y u (p ++ sN) := ⟨_, rfl⟩
    rw [← hX] at r1 ps un l1 ⊢
    rw [← hZ] at r2 ps un l2 ⊢
    obtain ⟨TW, hTW⟩ : ∃ TW, TW = trF G (.fk c t u) := ⟨_, rfl⟩
    rw [← hTW] at t0 t1 t2 t3 ⊢
    rw [seq_nx (ρ1 := [some TW, some (rat y), some (.str p), some (rat (Rat.divInt c B + y)), none, none, none, none, none]) (h1 := h) (by
      simp only [sAsg_e, dCall_e, aCons_e, aNil_e, dBin_e, dV_0, dV_1, dC_e, Res.bind_ok, t1, pl]; rfl)]
    rw [seq_nx (ρ1 := [some TW, some (rat y), some (.str p), some (rat (Rat.divInt c B + y)), none, none, none, none, none]) (h1 := h) (by
      simp only [sIf_e, tVal_e, dBin_e, dV_0, dC_e, Res.bind_ok, t0, k0, asB_b, onR_ok, Bool.false_eq_true, if_false, sNx_e])]
    rw [seq_nx (ρ1 := [some TW, some (rat y), some (.str p), some (rat (Rat.divInt c B + y)), some (rat X.1), some (.fl (X.2.map W.str)), none, none, none]) (h1 := h) (by
      simp only [sAsg_e, dCall_e, aCons_e, aNil_e, dBin_e, dV_0, dV_1, dV_2, dC_e, Res.bind_ok, t2, pY, r1]; rfl)]
    rw [seq_nx (ρ1 := [some TW, some (rat y), some (.str p), some (rat (Rat.divInt c B + y)), some (rat X.1), some (.fl (X.2.map W.str)), some (rat Z.1), some (.fl (Z.2.map W.str)), none]) (h1 := h) (by
      simp only [sAsg_e, dCall_e, aCons_e, aNil_e, dBin_e, dV_0, dV_1, dV_2, dC_e, Res.bind_ok, t3, pN, r2]; rfl)]
    rw [seq_nx (ρ1 := [some TW, some (rat y), some (.str p), some (rat (Rat.divInt c B + y)), some (rat X.1), some (.fl (X.2.map W.str)), some (rat Z.1), some (.fl (Z.2.map W.str)), some (rat (X.1 + Z.1))]) (h1 := h) (by
      simp only [sAsg_e, dCall_e, aCons_e, aNil_e, dV_4, dV_6, Res.bind_ok, ps]; rfl)]
    have v8 : ∀ h, dV 8 [some TW, some (rat y), some (.str p), some (rat (Rat.divInt c B + y)), some (rat X.1), some (.fl (X.2.map W.str)), some (rat Z.1), some (.fl (Z.2.map W.str)), some (rat (X.1 + Z.1))] h = .ok (rat (X.1 + Z.1)) h := fun _ => rfl
    have v7 : ∀ h, dV 7 [some TW, some (rat y), some (.str p), some (rat (Rat.divInt c B + y)), some (rat X.1), some (.fl (X.2.map W.str)), some (rat Z.1), some (.fl (Z.2.map W.str)), some (rat (X.1 + Z.1))] h = .ok (.fl (Z.2.map W.str)) h := fun _ => rfl
    have ad : dGz (dBin oAdd (dV 7) (dV 5)) [some TW, some (rat y), some (.str p), some (rat (Rat.divInt c B + y)), some (rat X.1), some (.fl (X.2.map W.str)), some (rat Z.1), some (.fl (Z.2.map W.str)), some (rat (X.1 + Z.1))] h = .ok (.fl ((Z.2 ++ X.2).map W.str)) h := by
      rw [dGz_e, dBin_e, v7, Res.bind_ok, dV_5, Res.bind_ok, oAdd_flfl (by rw [List.length_map, List.length_map]; unfold bigL; omega), ← List.map_append]
      exact gc_newL (strs_pure _)
    have lz : dGz (dLst (aCons (dV 2) (aNil))) [some TW, some (rat y), some (.str p), some (rat (Rat.divInt c B + y)), some (rat X.1), some (.fl (X.2.map W.str)), some (rat Z.1), some (.fl (Z.2.map W.str)), some (rat (X.1 + Z.1))] h = .ok (.fl [.str p]) h := lst_gz rfl (by simp) rfl
    by_cases k : X.1 + Z.1 < Rat.divInt c B + y
    · rw [if_pos k]
      have e : sIf (tVal (dCall f_under (aCons (dV 8) (aCons (dV 3) (aNil))))) (sRet (dTup (aCons (dV 8) (aCons (dGz (dBin oAdd (dV 7) (dV 5))) (aNil))))) (sNx) [some TW, some (rat y), some (.str p), some (rat (Rat.divInt c B + y)), some (rat X.1), some (.fl (X.2.map W.str)), some (rat Z.1), some (.fl (Z.2.map W.str)), some (rat (X.1 + Z.1))] h = .ret (.tup [rat (X.1 + Z.1), .fl ((Z.2 ++ X.2).map W.str)]) h := by
        simp only [sIf_e, tVal_e, dCall_e, aCons_e, aNil_e, v8, dV_3, Res.bind_ok, un, k, decide_true, asB_b, onR_ok, if_true, sRet_e, dTup_e, ad, List.length_cons, List.length_nil, Nat.zero_add, Nat.reduceAdd, big_lit2]
      rw [sSeq_t, e]
      have := gc_pure (h := h) (e := []) (tup2_pure (X.1 + Z.1) (Z.2 ++ X.2))
      rwa [List.append_nil] at this
    · rw [if_neg k]
      rw [seq_nx (ρ1 := [some TW, some (rat y), some (.str p), some (rat (Rat.divInt c B + y)), some (rat X.1), some (.fl (X.2.map W.str)), some (rat Z.1), some (.fl (Z.2.map W.str)), some (rat (X.1 + Z.1))]) (h1 := h) (by
        simp only [sIf_e, tVal_e, dCall_e, aCons_e, aNil_e, v8, dV_3, Res.bind_ok, un, k, decide_false, asB_b, onR_ok, Bool.false_eq_true, if_false, sNx_e])]
      simp only [sRet_e, dTup_e, aCons_e, aNil_e, dV_3, lz, Res.bind_ok, List.length_cons, List.length_nil, Nat.zero_add, Nat.reduceAdd, big_lit2, if_true, onR_ok, endF_ret]
      exact gc_same _
theorem cheapest_e (B : Int) (hB : 0 < B ∧ B < 2 ^ 100) (y : Rat) (ry : RB 900 y) (hy : 0 ≤ y.num) (t : Tr) (hh : t.high < 64) (hl : t.leaves ≤ 100) (tc : t.costs (2 ^ 105)) (h : Hs) : f_cheapest [trF (fun c => rat (Rat.divInt c B)) t, rat y] h = .ok (.fl ((bst B y t []).2.map W.str)) h := by
  rw [f_cheapest_e]
  unfold b_cheapest
  have b := best_e B hB y ry t 64 [] h hh (by simp; omega) hl tc
  have b : f_best_under 64 [trF (fun c => rat (Rat.divInt c B)) t, rat y, .str []] h = _ := b
  have hn : decide (y.num < 0) = false := decide_eq_false (by omega)
  generalize trF (fun c => rat (Rat.divInt c B)) t = TW at *
  rw [seq_nx (ρ1 := [some TW, some (rat y)]) (h1 := h) (by
    simp only [sIf_e, tVal_e, dBin_e, dV_1, dC_e, Res.bind_ok, rat_0, oLt_i, hn, asB_b, onR_ok, Bool.false_eq_true, if_false, sNx_e])]
  have ix : ∀ h, oIx (.tup [rat (bst B y t []).1, .fl ((bst B y t []).2.map W.str)]) (.int 1) h = .ok (.fl ((bst B y t []).2.map W.str)) h := fun h => oIx_t1
  simp only [sRet_e, dBin_e, dCall_e, aCons_e, aNil_e, dV_0, dV_1, dC_e, Res.bind_ok, b, ix, onR_ok, endF_ret]
  have := gc_pure (h := h) (e := []) (fl_pure (bst B y t []).2)
  rwa [List.append_nil] at this
end Law
end PF
namespace PF
namespace Law
def leastF (m : Rat) (x : List Nat × Rat) : Rat := if x.2 < m then x.2 else m
def leastL : List (List Nat × Rat) → Rat
  | [] => 0
  | x :: l => (x :: l).foldl leastF x.2
theorem least_fold : ∀ (l : List (List Nat × Rat)) (m : Rat), l.foldl leastF m ≤ m ∧ (∀ x, x ∈ l → l.foldl leastF m ≤ x.2) ∧ (l.foldl leastF m = m ∨ ∃ x, x ∈ l ∧ x.2 = l.foldl leastF m)
  | [], m => ⟨Rat.le_refl, fun _ h => (by cases h), .inl rfl⟩
  | x :: l, m => by
    obtain ⟨h1, h2, h3⟩ := least_fold l (leastF m x)
    rw [List.foldl_cons]
    have a : leastF m x ≤ m ∧ leastF m x ≤ x.2 ∧ (leastF m x = m ∨ leastF m x = x.2) := by
      unfold leastF
      split
      · rename_i k
        exact ⟨Rat.le_of_lt k, Rat.le_refl, .inr rfl⟩
      · rename_i k
        exact ⟨Rat.le_refl, Rat.not_lt.mp k, .inl rfl⟩
    obtain ⟨a1, a2, a3⟩ := a
    refine ⟨Rat.le_trans h1 a1, fun w hw => ?_, ?_⟩
    · rcases List.mem_cons.mp hw with hw | hw
      · rw [hw]; exact Rat.le_trans h1 a2
      · exact h2 w hw
    · rcases h3 with h3 | ⟨w, hw, e⟩
      · rcases a3 with a3 | a3
        · exact .inl (h3.trans a3)
        · exact .inr ⟨x, List.mem_cons_self .., (h3.trans a3).symm⟩
      · exact .inr ⟨w, List.mem_cons_of_mem _ hw, e⟩
theorem least_is {l : List (List Nat × Rat)} (hl : l ≠ []) : (∀ x, x ∈ l → leastL l ≤ x.2) ∧ ∃ x, x ∈ l ∧ x.2 = leastL l := by
  cases l with
  | nil => exact absurd rfl hl
  | cons x l =>
    obtain ⟨h1, h2, h3⟩ := least_fold (x :: l) x.2
    refine ⟨h2, ?_⟩
    rcases h3 with h3 | h3
    · exact ⟨x, List.mem_cons_self .., h3.symm⟩
    · exact h3
/-! the row of prices -/
def nxt (B : Int) (t : Tr) (y : Rat) : Rat := leastL (lnk B y t [])
def yk (B : Int) (t : Tr) : Nat → Rat
  | 0 => 0
  | k + 1 => nxt B t (yk B t k)
abbrev root (B : Int) (t : Tr) (y : Rat) : Prop := (bst B y t []).2 = [[]]
theorem root_or (B : Int) (t : Tr) (y : Rat) : root B t y ∨ lnk B y t [] ≠ [] := by
  cases t with
  | en c => exact .inl rfl
  | fk c t u =>
    by_cases k : ins B y c t u
    · right; rw [lnk, if_pos k]; simp
    · left; unfold root; rw [bst_fk, if_neg k]
theorem nxt_is {B : Int} (hB : 0 < B) {t : Tr} {y : Rat} (h : ¬ root B t y) : y < nxt B t y ∧ (∀ x, x ∈ lnk B y t [] → nxt B t y ≤ x.2) ∧ bn B (nxt B t y) t < bn B y t := by
  have hl := (root_or B t y).resolve_left h
  obtain ⟨h1, x, hx, e⟩ := least_is hl
  have a : y < nxt B t y := by
    unfold nxt
    rw [← e]; exact lnk_above hB y t [] x hx
  exact ⟨a, h1, (bn_fewer hB (Rat.le_of_lt a) t [] h1).2 ⟨x, hx, e⟩⟩
def Good (B : Int) (t : Tr) (k : Nat) : Prop := ∀ i, i < k → ¬ root B t (yk B t i)
theorem Good.step {B : Int} {t : Tr} {k : Nat} (g : Good B t k) (h : ¬ root B t (yk B t k)) : Good B t (k + 1) := fun i hi => by
  rcases Nat.lt_succ_iff_lt_or_eq.mp hi with hi | hi
  · exact g i hi
  · rw [hi]; exact h
theorem Good.few {B : Int} (hB : 0 < B) {t : Tr} : ∀ {k : Nat}, Good B t k → bn B (yk B t k) t + k ≤ t.leaves
  | 0, _ => bn_le B _ t
  | k + 1, g => by
    have h1 := Good.few hB (k := k) fun i hi => g i (by omega)
    have h2 := (nxt_is hB (g k (by omega))).2.2
    have e : yk B t (k + 1) = nxt B t (yk B t k) := rfl
    rw [e]
    omega
theorem Good.nn {B : Int} (hB : 0 < B) {t : Tr} : ∀ {k : Nat}, Good B t k → 0 ≤ yk B t k
  | 0, _ => Rat.le_refl
  | k + 1, g => by
    have h1 := Good.nn hB (k := k) fun i hi => g i (by omega)
    exact Rat.le_trans h1 (Rat.le_of_lt (nxt_is hB (g k (by omega))).1)
theorem Good.rb {B : Int} (hB : 0 < B ∧ B < 2 ^ 100) {t : Tr} (hl : t.leaves ≤ 100) (tc : t.costs (2 ^ 105)) : ∀ {k : Nat}, Good B t k → RB 400 (yk B t k)
  | 0, _ => ⟨by show (0 : Int).natAbs < 2 ^ 400; exact Nat.pow_pos (by omega), by show 1 < 2 ^ 400; exact Nat.one_lt_two_pow (by omega)⟩
  | k + 1, g => by
    have hk := g k (by omega)
    obtain ⟨h1, x, hx, e⟩ := least_is ((root_or B t (yk B t k)).resolve_left hk)
    have e2 : yk B t (k + 1) = x.2 := e.symm
    rw [e2]
    exact lnk_rb hB _ t [] hl tc x hx
theorem last_is {B : Int} (hB : 0 < B) (t : Tr) : ∃ K, Good B t K ∧ root B t (yk B t K) := by
  have main : ∀ n k, bn B (yk B t k) t ≤ n → Good B t k → ∃ K, Good B t K ∧ root B t (yk B t K) := by
    intro n
    induction n with
    | zero => intro k h _; have := bn_pos B (yk B t k) t; omega
    | succ n ih =>
      intro k h g
      by_cases r : root B t (yk B t k)
      · exact ⟨k, g, r⟩
      · have := (nxt_is hB r).2.2
        exact ih (k + 1) (by show bn B (nxt B t (yk B t k)) t ≤ n; omega) (g.step r)
  exact main _ 0 (Nat.le_refl _) fun i hi => by omega
theorem last_one {B : Int} {t : Tr} {K J : Nat} (g : Good B t K) (r : root B t (yk B t K)) (g' : Good B t J) (r' : root B t (yk B t J)) : J = K := by
  rcases Nat.lt_trichotomy J K with h | h | h
  · exact absurd r' (g J h)
  · exact h
  · exact absurd r (g' K h)
theorem cut_yk {B : Int} (hB : 0 < B) {t : Tr} {y : Rat} (h : ¬ root B t y) : cutP (bst B y t []).2 (metP B y (nxt B t y) t) = (bst B (nxt B t y) t []).2 :=
  cut_next hB (Rat.le_of_lt (nxt_is hB h).1) t (nxt_is hB h).2.1
/-! the walk -/
theorem links_e (B : Int) (hB : 0 < B ∧ B < 2 ^ 100) (y : Rat) (t : Tr) (hh : t.high < 64) (hl : t.leaves ≤ 100) (tc : t.costs (2 ^ 105)) (h : Hs) : f_all_links [trF (fun c => rat (Rat.divInt c B)) t, .fl ((bst B y t []).2.map W.str)] h = .ok (.fl ((lnk B y t []).map lkW)) h := by
  rw [f_all_links_e]
  unfold b_all_links
  have l := linked_e B hB y (bst B y t []).2 t 64 [] h hh (by simp; omega) hl tc fun q _ => Iff.rfl
  have l : f_linked_under 64 [trF (fun c => rat (Rat.divInt c B)) t, .fl ((bst B y t []).2.map W.str), .str []] h = _ := l
  generalize trF (fun c => rat (Rat.divInt c B)) t = TW at *
  generalize (bst B y t []).2.map W.str = LW at *
  have ix : ∀ a b c h, oIx (.tup [a, b, c]) (.int 2) h = .ok c h := fun a b c h => oIx_tup (k := 2) rfl
  simp only [sRet_e, dBin_e, dCall_e, aCons_e, aNil_e, dV_0, dV_1, dC_e, Res.bind_ok, l, ix, onR_ok, endF_ret]
  have := gc_pure (h := h) (e := []) (lks_pure (lnk B y t []))
  rwa [List.append_nil] at this
theorem least_e (l : List (List Nat × Rat)) (hl : l ≠ []) (rl : ∀ x, x ∈ l → RB 400 x.2) (h : Hs) : f_least_link [.fl (l.map lkW)] h = .ok (rat (leastL l)) h := by
  rw [f_least_link_e]
  unfold b_least_link
  cases l with
  | nil => exact absurd rfl hl
  | cons x l =>
    have i1 : ∀ h, oIx (.fl ((x :: l).map lkW)) (.int 0) h = .ok (lkW x) h := fun h => oIx_fl (k := 0) rfl
    have i2 : ∀ h, oIx (lkW x) (.int 1) h = .ok (rat x.2) h := fun h => oIx_t1
    obtain ⟨ρ', h', e, ⟨a, b, eρ, eh, er⟩⟩ := forL_st (enc := lkW) (g := [(.fl ((x :: l).map lkW), (x :: l).map lkW)]) (tg := .t [.n 2, .n 3]) (b := L1_least_link) (fun (s : Rat) ρ h' => ∃ a b : Option W, ρ = [some (.fl ((x :: l).map lkW)), some (rat s), a, b] ∧ h' = h ∧ RB 400 s) leastF (x :: l) x.2 [some (.fl ((x :: l).map lkW)), some (rat x.2), none, none] h ⟨none, none, rfl, rfl, rl x (List.mem_cons_self ..)⟩ (fun _ _ _ _ => stays_fl) (by
      rintro s w ρ h' hw ⟨a, b, rfl, rfl, rs⟩
      have rw' := rl w hw
      have un := under_r w.2 s h' (rw'.le (by omega)) (rs.le (by omega))
      refine ⟨[some (.fl ((x :: l).map lkW)), some (rat s), some (.str w.1), some (rat w.2)], rfl, .inl ?_⟩
      unfold leastF
      by_cases k : w.2 < s
      · refine ⟨[some (.fl ((x :: l).map lkW)), some (rat w.2), some (.str w.1), some (rat w.2)], h', ?_, ?_⟩
        · rw [decide_eq_true k] at un
          unfold L1_least_link
          simp only [sIf_e, tVal_e, dCall_e, aCons_e, aNil_e, dV_1, dV_3, Res.bind_ok, un, asB_b, onR_ok, if_true, sAsg_e]
          rfl
        · rw [if_pos k]; exact ⟨_, _, rfl, rfl, rw'⟩
      · refine ⟨[some (.fl ((x :: l).map lkW)), some (rat s), some (.str w.1), some (rat w.2)], h', ?_, ?_⟩
        · rw [decide_eq_false k] at un
          unfold L1_least_link
          simp only [sIf_e, tVal_e, dCall_e, aCons_e, aNil_e, dV_1, dV_3, Res.bind_ok, un, asB_b, onR_ok, Bool.false_eq_true, if_false, sNx_e]
        · rw [if_neg k]; exact ⟨_, _, rfl, rfl, rs⟩)
    rw [eρ, eh] at e
    rw [seq_nx (ρ1 := [some (.fl ((x :: l).map lkW)), some (rat x.2), none, none]) (h1 := h) (by
      simp only [sAsg_e, dBin_e, dV_0, dC_e, Res.bind_ok, i1, i2]; rfl)]
    rw [seq_nx (by rw [sFor_e, iAny_fl (h1 := h) rfl, onR_ok]; exact e)]
    simp only [sRet_e, dV_1, onR_ok, endF_ret]
    exact gc_same _
theorem cutF_e (L S : List (List Nat)) (hL : L.length < 1000) (hS : S.length < 1000) (h : Hs) : f_cut [.fl (L.map W.str), .fl (S.map W.str)] h = .ok (.fl ((cutP L S).map W.str)) h := by
  rw [f_cut_e]
  unfold b_cut
  have te := fun q h => topsof_e S q hS h
  have c1 := comp_gz (it := iAny (dV 0)) (tg := .n 4) (t := tVal (dBin oEq (dCall bLen (aCons (dCall f_tops_of (aCons (dV 1) (aCons (dV 4) (aNil)))) (aNil))) (dC (.int 0)))) (e := dV 4) (own := [4]) (ρ := [some (.fl (L.map W.str)), some (.fl (S.map W.str)), none, none, none]) (h := h) W.str W.str (fun q => decide ((tops S q).length = 0)) L (iAny_fl rfl) (fun _ => stays_fl) (by unfold bigL; omega) (fun _ _ _ => rfl) (fun s _ => by
    refine ⟨[some (.fl (L.map W.str)), some (.fl (S.map W.str)), none, none, some (.str s)], rfl, fun acc => ⟨?_, fun _ => rfl⟩⟩
    have e : decide (((tops S s).length : Int) = 0) = decide ((tops S s).length = 0) := decide_eq_decide.mpr (by omega)
    rw [← e]
    simp only [tVal_e, dBin_e, dCall_e, aCons_e, aNil_e, dV_1, dV_4, dC_e, Res.bind_ok, te, bLen_fl, List.length_map, oEq_i, asB_b, beq_dec])
  have c2 := comp_gz (it := iAny (dV 1)) (tg := .n 4) (t := tVal (dBin oEq (dCall bLen (aCons (dCall f_tops_of (aCons (dV 1) (aCons (dV 4) (aNil)))) (aNil))) (dC (.int 1)))) (e := dV 4) (own := [4]) (ρ := [some (.fl (L.map W.str)), some (.fl (S.map W.str)), some (.fl ((keptP L S).map W.str)), none, none]) (h := h) W.str W.str (fun q => decide ((tops S q).length = 1)) S (iAny_fl rfl) (fun _ => stays_fl) (by unfold bigL; omega) (fun _ _ _ => rfl) (fun s _ => by
    refine ⟨[some (.fl (L.map W.str)), some (.fl (S.map W.str)), some (.fl ((keptP L S).map W.str)), none, some (.str s)], rfl, fun acc => ⟨?_, fun _ => rfl⟩⟩
    have e : decide (((tops S s).length : Int) = 1) = decide ((tops S s).length = 1) := decide_eq_decide.mpr (by omega)
    rw [← e]
    simp only [tVal_e, dBin_e, dCall_e, aCons_e, aNil_e, dV_1, dV_4, dC_e, Res.bind_ok, te, bLen_fl, List.length_map, oEq_i, asB_b, beq_dec])
  have lk : (keptP L S).length ≤ L.length := List.length_filter_le _ _
  have lo : (outerP S).length ≤ S.length := List.length_filter_le _ _
  rw [seq_nx (ρ1 := [some (.fl (L.map W.str)), some (.fl (S.map W.str)), some (.fl ((keptP L S).map W.str)), none, none]) (h1 := h) (by rw [sAsg_e, c1]; rfl)]
  rw [seq_nx (ρ1 := [some (.fl (L.map W.str)), some (.fl (S.map W.str)), some (.fl ((keptP L S).map W.str)), some (.fl ((outerP S).map W.str)), none]) (h1 := h) (by rw [sAsg_e, c2]; rfl)]
  have z : dGz (dBin oAdd (dV 2) (dV 3)) [some (.fl (L.map W.str)), some (.fl (S.map W.str)), some (.fl ((keptP L S).map W.str)), some (.fl ((outerP S).map W.str)), none] h = .ok (.fl ((keptP L S ++ outerP S).map W.str)) h := by
    rw [dGz_e, dBin_e, dV_2, Res.bind_ok, dV_3, Res.bind_ok, oAdd_flfl (by simp [bigL]; omega), ← List.map_append]
    exact gc_newL (pures_map fun _ _ => rfl)
  have bs : bSorted [.fl ((keptP L S ++ outerP S).map W.str)] h = newL ((cutP L S).map W.str) h := by
    simp only [bSorted, dctOf, lstOf_fl, Option.bind_some, strsOf_map]
    rfl
  have gz : dGz (dCall bSorted (aCons (dGz (dBin oAdd (dV 2) (dV 3))) (aNil))) [some (.fl (L.map W.str)), some (.fl (S.map W.str)), some (.fl ((keptP L S).map W.str)), some (.fl ((outerP S).map W.str)), none] h = .ok (.fl ((cutP L S).map W.str)) h := by
    rw [dGz_e, dCall_e, aCons_e, z, Res.bind_ok, aNil_e, Res.bind_ok, Res.bind_ok, bs]
    exact gc_newL (strs_pure _)
  rw [sRet_e, gz, onR_ok, endF_ret]
  exact gc_same _
def stepW (B : Int) (t : Tr) (y : Rat) : W := .tup [rat y, .fl ((bst B y t []).2.map W.str)]
theorem stepW_pure (B : Int) (t : Tr) (y : Rat) : (stepW B t y).pure = true := by
  unfold stepW
  have e : (W.fl ((bst B y t []).2.map W.str)).pure = true := by rw [W.pure]; exact strs_pure _
  rw [W.pure, pures_cons, pures_cons, e]; rfl
def stepsW (B : Int) (t : Tr) (k : Nat) : List W := (List.range (k + 1)).map fun i => stepW B t (yk B t i)
theorem path_e (B : Int) (hB : 0 < B ∧ B < 2 ^ 100) (t : Tr) (hh : t.high < 64) (hl : t.leaves ≤ 100) (tc : t.costs (2 ^ 105)) {K : Nat} (g : Good B t K) (r : root B t (yk B t K)) (h : Hs) : f_path [trF (fun c => rat (Rat.divInt c B)) t] h = .ok (.fl (stepsW B t K)) h := by
  rw [f_path_e]
  unfold b_path
  have g0 : Good B t 0 := fun i hi => by omega
  have e00 : rat 0 = .tup [.int 0, .int 1] := rfl
  have ch := cheapest_e B hB 0 ((g0.rb hB hl tc).le (by omega)) (by show (0 : Int) ≤ 0; omega) t hh hl tc h
  rw [e00] at ch
  obtain ⟨HT, hHT⟩ : ∃ HT, HT = trF (fun c => rat (Rat.divInt c B)) t := ⟨_, rfl⟩
  rw [← hHT] at ch ⊢
  rw [seq_nx (ρ1 := [some HT, some (rat 0), none, none, none, none, none]) (h1 := h) (by
    simp only [sAsg_e, dTup_e, aCons_e, aNil_e, dC_e, Res.bind_ok, List.length_cons, List.length_nil, Nat.zero_add, Nat.reduceAdd, big_lit2, if_true]; rfl)]
  rw [← e00] at ch
  rw [seq_nx (ρ1 := [some HT, some (rat 0), some (.fl ((bst B 0 t []).2.map W.str)), none, none, none, none]) (h1 := h) (by
    simp only [sAsg_e, dCall_e, aCons_e, aNil_e, dV_0, dV_1, Res.bind_ok, ch]; rfl)]
  rw [seq_nx (ρ1 := [some HT, some (rat 0), some (.fl ((bst B 0 t []).2.map W.str)), some (.ref h.length), none, none, none]) (h1 := h ++ [.lst (stepsW B t 0)]) (by
    simp only [sAsg_e, dLst_e, dTup_e, aCons_e, aNil_e, dV_1, dV_2, Res.bind_ok, List.length_cons, List.length_nil, Nat.zero_add, Nat.reduceAdd, big_lit2, if_true]; rfl)]
  obtain ⟨k, ρ', h', ew, ⟨e4, e5, e6, eρ, eh, gk⟩, hc⟩ := while_ex (t := tVal (dBin oNe (dV 2) (dGz (dLst (aCons (dC (.str [])) (aNil)))))) (b := L1_path) (fun (k : Nat) ρ h' => ∃ e4 e5 e6 : Option W, ρ = [some HT, some (rat (yk B t k)), some (.fl ((bst B (yk B t k) t []).2.map W.str)), some (.ref h.length), e4, e5, e6] ∧ h' = h ++ [.lst (stepsW B t k)] ∧ Good B t k) (fun k => bn B (yk B t k) t) (fun k => !decide (root B t (yk B t k)))
    (by
      rintro k ρ h' ⟨e4, e5, e6, rfl, rfl, gk⟩
      have lz : dGz (dLst (aCons (dC (.str [])) (aNil))) [some HT, some (rat (yk B t k)), some (.fl ((bst B (yk B t k) t []).2.map W.str)), some (.ref h.length), e4, e5, e6] (h ++ [.lst (stepsW B t k)]) = .ok (.fl (([[]] : List (List Nat)).map W.str)) (h ++ [.lst (stepsW B t k)]) := lst_gz rfl (by simp) rfl
      rw [tVal_e, dBin_e, dV_2, Res.bind_ok, lz, Res.bind_ok, oNe_strs, Res.bind_ok, asB_b])
    (by
      rintro k ρ h' ⟨e4, e5, e6, rfl, rfl, gk⟩ hc
      have nr : ¬ root B t (yk B t k) := fun z => by rw [decide_eq_true z] at hc; cases hc
      obtain ⟨n1, n2, n3⟩ := nxt_is hB.1 nr
      have hne := (root_or B t (yk B t k)).resolve_left nr
      have fw := gk.few hB.1
      have bp := bn_pos B (yk B t k) t
      have al := links_e B hB (yk B t k) t hh hl tc (h ++ [.lst (stepsW B t k)])
      rw [← hHT] at al
      have le := least_e (lnk B (yk B t k) t []) hne (lnk_rb hB _ t [] hl tc) (h ++ [.lst (stepsW B t k)])
      have e1 : leastL (lnk B (yk B t k) t []) = yk B t (k + 1) := rfl
      rw [e1] at le
      have ck := cut_yk hB.1 nr
      have e2 : nxt B t (yk B t k) = yk B t (k + 1) := rfl
      rw [e2] at ck n1 n2 n3
      have ll := lnk_len B (yk B t k) t []
      have bl := bn_le B (yk B t k) t
      have ml : (metP B (yk B t k) (yk B t (k + 1)) t).length < 1000 := by
        unfold metP
        rw [List.length_map]
        have := List.length_filter_le (fun x : List Nat × Rat => decide (x.2 = yk B t (k + 1))) (lnk B (yk B t k) t [])
        omega
      have cu := cutF_e (bst B (yk B t k) t []).2 (metP B (yk B t k) (yk B t (k + 1)) t) (by have : (bst B (yk B t k) t []).2.length = bn B (yk B t k) t := rfl; omega) ml (h ++ [.lst (stepsW B t k)])
      rw [ck] at cu
      have kd : kdOf (.ref h.length) (h ++ [.lst (stepsW B t k)]) = some .lst := kd_at (ws := stepsW B t k) (by simp)
      have sl : (stepsW B t k).length = k + 1 := by simp [stepsW]
      have ap := mApp_end (h := h) (ws := stepsW B t k) (w := stepW B t (yk B t (k + 1))) (by rw [sl]; unfold bigL; omega)
      have es : stepsW B t k ++ [stepW B t (yk B t (k + 1))] = stepsW B t (k + 1) := by
        unfold stepsW
        rw [List.range_succ (n := k + 1), List.map_append]; rfl
      rw [es] at ap
      refine ⟨k + 1, [some HT, some (rat (yk B t (k + 1))), some (.fl ((bst B (yk B t (k + 1)) t []).2.map W.str)), some (.ref h.length), some (.fl ((lnk B (yk B t k) t []).map lkW)), e5, e6], h ++ [.lst (stepsW B t (k + 1))], .inl ?_, ⟨_, _, _, rfl, rfl, gk.step nr⟩, n3⟩
      have cm : dGz (dComp (iAny (dV 4)) (.t [.n 5, .n 6]) (tVal (dBin oEq (dV 6) (dV 1))) (dV 5) [5, 6]) [some HT, some (rat (yk B t (k + 1))), some (.fl ((bst B (yk B t k) t []).2.map W.str)), some (.ref h.length), some (.fl ((lnk B (yk B t k) t []).map lkW)), e5, e6] (h ++ [.lst (stepsW B t k)]) = .ok (.fl ((metP B (yk B t k) (yk B t (k + 1)) t).map W.str)) (h ++ [.lst (stepsW B t k)]) := by
        have := comp_gz (it := iAny (dV 4)) (tg := .t [.n 5, .n 6]) (t := tVal (dBin oEq (dV 6) (dV 1))) (e := dV 5) (own := [5, 6]) (ρ := [some HT, some (rat (yk B t (k + 1))), some (.fl ((bst B (yk B t k) t []).2.map W.str)), some (.ref h.length), some (.fl ((lnk B (yk B t k) t []).map lkW)), e5, e6]) (h := h ++ [.lst (stepsW B t k)]) lkW (fun x => W.str x.1) (fun x => decide (x.2 = yk B t (k + 1))) (lnk B (yk B t k) t []) (iAny_fl rfl) (fun _ => stays_fl) (by unfold bigL; omega) (fun _ _ _ => rfl) (fun x _ => by
          refine ⟨[some HT, some (rat (yk B t (k + 1))), some (.fl ((bst B (yk B t k) t []).2.map W.str)), some (.ref h.length), some (.fl ((lnk B (yk B t k) t []).map lkW)), some (.str x.1), some (rat x.2)], rfl, fun acc => ⟨?_, fun _ => rfl⟩⟩
          simp only [tVal_e, dBin_e, dV_6, dV_1, Res.bind_ok]
          rw [oEq_pl (n := 1) (by decide) (rat_pl 0 _) (rat_pl 0 _), Res.bind_ok, asB_b, decide_eq_decide.mpr rat_inj])
        rw [this]
        unfold metP
        rw [List.map_map]; rfl
      generalize (bst B (yk B t k) t []).2.map W.str = LW at *
      generalize (lnk B (yk B t k) t []).map lkW = KW at *
      generalize (metP B (yk B t k) (yk B t (k + 1)) t).map W.str = MW at *
      have ew : stepW B t (yk B t (k + 1)) = .tup [rat (yk B t (k + 1)), .fl ((bst B (yk B t (k + 1)) t []).2.map W.str)] := rfl
      rw [ew] at ap
      generalize (bst B (yk B t (k + 1)) t []).2.map W.str = NW at *
      unfold L1_path
      rw [seq_nx (ρ1 := [some HT, some (rat (yk B t k)), some (.fl LW), some (.ref h.length), some (.fl KW), e5, e6]) (h1 := h ++ [.lst (stepsW B t k)]) (by
        simp only [sAsg_e, dCall_e, aCons_e, aNil_e, dV_0, dV_2, Res.bind_ok, al]; rfl)]
      rw [seq_nx (ρ1 := [some HT, some (rat (yk B t (k + 1))), some (.fl LW), some (.ref h.length), some (.fl KW), e5, e6]) (h1 := h ++ [.lst (stepsW B t k)]) (by
        simp only [sAsg_e, dCall_e, aCons_e, aNil_e, dV_4, Res.bind_ok, le]; rfl)]
      rw [seq_nx (ρ1 := [some HT, some (rat (yk B t (k + 1))), some (.fl NW), some (.ref h.length), some (.fl KW), e5, e6]) (h1 := h ++ [.lst (stepsW B t k)]) (by
        rw [sAsg_e, dCall_e, aCons_e, dV_2, Res.bind_ok, aCons_e, cm]
        simp only [aNil_e, Res.bind_ok, cu]; rfl)]
      simp only [sExp_e, dMeth_e, dV_3, Res.bind_ok, kd, if_true, aCons_e, aNil_e, dTup_e, dV_1, dV_2, List.length_cons, List.length_nil, Nat.zero_add, Nat.reduceAdd, big_lit2, ap, onR_ok])
    0 [some HT, some (rat 0), some (.fl ((bst B 0 t []).2.map W.str)), some (.ref h.length), none, none, none] (h ++ [.lst (stepsW B t 0)]) ⟨none, none, none, rfl, rfl, g0⟩ (by
      have := bn_le B (yk B t 0) t
      exact Nat.lt_of_le_of_lt (Nat.le_trans this hl) (Nat.lt_of_lt_of_le (by omega : 100 < 2 ^ 7) (Nat.pow_le_pow_right (by omega) (by omega))))
  have rk : root B t (yk B t k) := by
    have : decide (root B t (yk B t k)) = true := by simpa using hc
    exact of_decide_eq_true this
  have ek : k = K := last_one g r gk rk
  rw [seq_nx ew, eρ, eh, ek]
  simp only [sRet_e, dV_3, onR_ok, endF_ret]
  exact gc_lst (Nat.le_refl _) (by simp) (pures_map fun i _ => stepW_pure B t _)
end Law
end PF
namespace PF
namespace Law
theorem lw_loop (n : Nat) : ∀ (a b : Nat) (u v x : Option W) (h : Hs), b < n → ∃ x', whileF (tVal (dBin oGt (dV 3) (dC (.int 0)))) L1__law_lowest n [u, v, some (.int a), some (.int b), x] h = .nx [u, v, some (.int (Nat.gcd a b)), some (.int 0), x'] h := by
  induction n with
  | zero => intro a b u v x h hb; omega
  | succ n ih =>
    intro a b u v x h hb
    rw [whileF]
    by_cases hz : b = 0
    · subst hz
      refine ⟨x, ?_⟩
      simp
    · have hp : (0 : Int) < (b : Int) := by omega
      obtain ⟨x', e⟩ := ih b (a % b) u v (some (.int ((a % b : Nat) : Int))) h (by have := Nat.mod_lt a (by omega : 0 < b); omega)
      refine ⟨x', ?_⟩
      have eg : Nat.gcd a b = Nat.gcd b (a % b) := by rw [Nat.gcd_comm a b, Nat.gcd_rec b a, Nat.gcd_comm]
      rw [eg, ← e]
      simp [L1__law_lowest, hp, oModP hp, hz]
theorem lowest_e (t b : Int) (h : Hs) (h0 : 0 < b) (hb : b.natAbs < 2 ^ 9000) : f__law_lowest [.int t, .int b] h = .ok (low t b) h := by
  obtain ⟨x', e⟩ := lw_loop (b.natAbs + 1) t.natAbs b.natAbs (some (.int t)) (some (.int b)) none h (by omega)
  have e2 := sWhile_of e (by intro z; cases z) (FUEL_big hb)
  have eb : ((b.natAbs : Nat) : Int) = b := by omega
  rw [eb] at e2
  rw [f__law_lowest_e]
  unfold b__law_lowest
  have n0 : ¬ (b = 0) := by omega
  have eg : ((t.natAbs.gcd b.natAbs : Nat) : Int) = (Int.gcd t b : Int) := rfl
  simp [abs_nat, e2, eg, oDiv_i (gcd_div (t := t) (b := b) n0 hb _), low]
theorem lowest_q (t b : Int) (h : Hs) (h0 : 0 < b) (hb : b.natAbs < 2 ^ 9000) : f__law_lowest [.int t, .int b] h = .ok (rat (Rat.divInt t b)) h := by
  rw [lowest_e t b h h0 hb, low_rat t b h0]
end Law
end PF
namespace PF
namespace Law
theorem trW_inj : ∀ {t u : Tr}, trW t = trW u → t = u
  | .en a, .en b, e => by
    rw [trW, trW] at e
    simp at e
    rw [e]
  | .en a, .fk b u v, e => by
    rw [trW, trW] at e
    simp at e
  | .fk a t s, .en b, e => by
    rw [trW, trW] at e
    simp at e
  | .fk a t s, .fk b u v, e => by
    rw [trW, trW] at e
    simp only [W.tup.injEq, List.cons.injEq, W.int.injEq, true_and, and_true] at e
    rw [e.1, trW_inj e.2.1, trW_inj e.2.2]
theorem oNe_tr (t u : Tr) (ht : t.high < 50) (hu : u.high < 50) (h : Hs) : oNe (trW t) (trW u) h = .ok (.bl (!decide (trW t = trW u))) h := by
  have lt : W.pl 51 (trW t) = true := pl_le _ _ _ (by omega) (trW_pl t)
  have lu : W.pl 51 (trW u) = true := pl_le _ _ _ (by omega) (trW_pl u)
  exact oNe_pl (n := 51) (by decide) lt lu
theorem handed_e (g : Int → W) (B : Int) (hg : ∀ (c : Int) (h : Hs), f__law_lowest [.int c, .int B] h = .ok (g c) h) (pg : ∀ c, (g c).pure = true) : ∀ (t : Tr) (n : Nat) (h : Hs), t.high < n → t.high < 50 → f__law_handed n [trW t, .int B] h = .ok (trF g t) h
  | .en c, n + 1, h, _, _ => by
    rw [f__law_handed_e]
    unfold b__law_handed
    have t0 : ∀ h, oIx (trW (.en c)) (.int 0) h = .ok (.str tEnd) h := fun h => oIx_t0
    have t1 : ∀ h, oIx (trW (.en c)) (.int 1) h = .ok (.int c) h := fun h => oIx_t1
    have e1 : sIf (tVal (dBin oEq (dBin oIx (dV 0) (dC (.int 0))) (dC (.str [101, 110, 100])))) (sRet (dTup (aCons (dC (.str [101, 110, 100])) (aCons (dCall f__law_lowest (aCons (dBin oIx (dV 0) (dC (.int 1))) (aCons (dV 1) (aNil)))) (aNil))))) (sNx) [some (trW (.en c)), some (.int B), none, none] h = .ret (trF g (.en c)) h := by
      simp [t0, t1, hg, trF]
    rw [sSeq_t, e1]
    have : (trF g (.en c)).pure = true := trF_pure pg _
    simp [this, gc_same]
  | .fk c t u, n + 1, h, hn, hb => by
    rw [f__law_handed_e]
    unfold b__law_handed
    have hh : (Tr.fk c t u).high = 1 + max t.high u.high := rfl
    rw [hh] at hn hb
    have t0 : ∀ h, oIx (trW (.fk c t u)) (.int 0) h = .ok (.str tFork) h := fun h => oIx_t0
    have t1 : ∀ h, oIx (trW (.fk c t u)) (.int 1) h = .ok (.int c) h := fun h => oIx_t1
    have t2 : ∀ h, oIx (trW (.fk c t u)) (.int 2) h = .ok (trW t) h := fun h => oIx_tup (k := 2) rfl
    have t3 : ∀ h, oIx (trW (.fk c t u)) (.int 3) h = .ok (trW u) h := fun h => oIx_tup (k := 3) rfl
    have nf : decide (tFork = tEnd) = false := by decide
    have r1 := handed_e g B hg pg t n h (by omega) (by omega)
    have r2 := handed_e g B hg pg u n h (by omega) (by omega)
    rw [seq_nx (ρ1 := [some (trW (.fk c t u)), some (.int B), none, none]) (h1 := h) (by
      simp only [sIf_e, tVal_e, dBin_e, dV_0, dC_e, Res.bind_ok, t0, oEq_s, nf, asB_b, onR_ok, Bool.false_eq_true, if_false, sNx_e])]
    rw [seq_nx (ρ1 := [some (trW (.fk c t u)), some (.int B), some (trF g t), none]) (h1 := h) (by
      simp only [sAsg_e, dCall_e, aCons_e, aNil_e, dBin_e, dV_0, dV_1, dC_e, Res.bind_ok, t2, r1]; rfl)]
    rw [seq_nx (ρ1 := [some (trW (.fk c t u)), some (.int B), some (trF g t), some (trF g t)]) (h1 := h) (by
      simp only [sAsg_e, dV_2]; rfl)]
    rw [seq_nx (ρ1 := [some (trW (.fk c t u)), some (.int B), some (trF g t), some (trF g u)]) (h1 := h) (by
      have ne := oNe_tr u t (by omega) (by omega) h
      simp only [sIf_e, tVal_e, dBin_e, dV_0, dC_e, Res.bind_ok, t2, t3, ne, asB_b, onR_ok]
      by_cases e : trW u = trW t
      · have e := trW_inj e
        subst e
        simp
      · simp only [e, decide_false, Bool.not_false, if_true, sAsg_e, dCall_e, aCons_e, aNil_e, dBin_e, dV_0, dV_1, dC_e, Res.bind_ok, t3, r2]
        rfl)]
    have er : sRet (dTup (aCons (dC (.str [102, 111, 114, 107])) (aCons (dCall f__law_lowest (aCons (dBin oIx (dV 0) (dC (.int 1))) (aCons (dV 1) (aNil)))) (aCons (dV 2) (aCons (dV 3) (aNil)))))) [some (trW (.fk c t u)), some (.int B), some (trF g t), some (trF g u)] h = .ret (trF g (.fk c t u)) h := by
      simp only [sRet_e, dTup_e, aCons_e, aNil_e, dCall_e, dBin_e, dV_0, dV_1, dV_2, dV_3, dC_e, Res.bind_ok, t1, hg, List.length_cons, List.length_nil, Nat.zero_add, Nat.reduceAdd]
      rfl
    rw [er, endF_ret]
    exact gc_pure (e := []) (trF_pure pg _) |> fun x => by rw [List.append_nil] at x; exact x
end Law
end PF
namespace PF
namespace Law
theorem bottom_e (c : Int) (h : Hs) : ∃ B : Int, (0 < B ∧ B < 2 ^ 100) ∧ f__law_bottom [.int c] h = .ok (.int B) h := by
  rw [f__law_bottom_e]
  unfold b__law_bottom
  obtain ⟨r, hr, er⟩ := pick_e c 11 4 (by omega) (by omega)
  have er : ∀ h, f__law_pick [.int c, .int 11, .int 4] h = _ := er
  have p30 : ∀ h, oPow (.int 10) (.int 30) h = .ok (.int (10 ^ 30)) h := fun h => oPow_i (by decide)
  have d3 : ∀ h, oDiv (.int c) (.int 3) h = .ok (.int (c / 3)) h := fun h => oDivS (by omega) (by omega)
  have d5 : ∀ h, oDiv (.int c) (.int 5) h = .ok (.int (c / 5)) h := fun h => oDivS (by omega) (by omega)
  have m1 : ∀ h, oMod (.int (c / 3)) (.int (10 ^ 30 - 1)) h = .ok (.int (c / 3 % (10 ^ 30 - 1))) h := fun h => oModP (by omega)
  have m2 : ∀ h, oMod (.int (c / 5)) (.int 2) h = .ok (.int (c / 5 % 2)) h := fun h => oModP (by omega)
  rw [seq_nx (ρ1 := [some (.int c), some (.int r)]) (h1 := h) (by simp only [sAsg_e, dCall_e, aCons_e, aNil_e, dV_0, dC_e, Res.bind_ok, er]; rfl)]
  by_cases k0 : r = 0
  · subst k0
    refine ⟨720720, by omega, ?_⟩
    have e : sIf (tVal (dBin oEq (dV 1) (dC (.int 0)))) (sRet (dC (.int 720720))) (sNx) [some (.int c), some (.int ((0 : Nat) : Int))] h = .ret (.int 720720) h := rfl
    rw [sSeq_t, e]
    exact gc_same _
  · have n0 : ((r : Int) == 0) = false := by rw [beq_dec]; exact decide_eq_false (by omega)
    rw [seq_nx (ρ1 := [some (.int c), some (.int r)]) (h1 := h) (by simp only [sIf_e, tVal_e, dBin_e, dV_1, dC_e, Res.bind_ok, oEq_i, n0, asB_b, onR_ok, Bool.false_eq_true, if_false, sNx_e])]
    by_cases k1 : r = 1
    · subst k1
      have b1 := Int.emod_nonneg (c / 3) (show (10 ^ 30 - 1 : Int) ≠ 0 by omega)
      have b2 := Int.emod_lt_of_pos (c / 3) (show (0 : Int) < 10 ^ 30 - 1 by omega)
      refine ⟨1 + c / 3 % (10 ^ 30 - 1), by omega, ?_⟩
      have n1 : (((1 : Nat) : Int) == 1) = true := rfl
      have e : sIf (tVal (dBin oEq (dV 1) (dC (.int 1)))) (sRet (dBin oAdd (dC (.int 1)) (dBin oMod (dBin oDiv (dV 0) (dC (.int 3))) (dBin oSub (dBin oPow (dC (.int 10)) (dC (.int 30))) (dC (.int 1)))))) (sNx) [some (.int c), some (.int ((1 : Nat) : Int))] h = .ret (.int (1 + c / 3 % (10 ^ 30 - 1))) h := by
        simp only [sIf_e, tVal_e, dBin_e, dV_0, dV_1, dC_e, Res.bind_ok, oEq_i, n1, asB_b, onR_ok, if_true, sRet_e, d3, p30, oSub_i, m1, oAdd_i]
      rw [sSeq_t, e]
      exact gc_same _
    · have n1 : ((r : Int) == 1) = false := by rw [beq_dec]; exact decide_eq_false (by omega)
      rw [seq_nx (ρ1 := [some (.int c), some (.int r)]) (h1 := h) (by simp only [sIf_e, tVal_e, dBin_e, dV_1, dC_e, Res.bind_ok, oEq_i, n1, asB_b, onR_ok, Bool.false_eq_true, if_false, sNx_e])]
      have b1 := Int.emod_nonneg (c / 5) (show (2 : Int) ≠ 0 by omega)
      have b2 := Int.emod_lt_of_pos (c / 5) (show (0 : Int) < 2 by omega)
      refine ⟨1 + c / 5 % 2, by omega, ?_⟩
      simp only [sRet_e, dBin_e, dV_0, dC_e, Res.bind_ok, d5, m2, oAdd_i, onR_ok, endF_ret]
      exact gc_same _
end Law
end PF
namespace PF
namespace Law
theorem gc_cell {h : Hs} {b : Nat} {c : Cell} {w : W} (hc : c.pure = true) (hw : w.pure = true) : gc h (.ok w (h.set b c)) = .ok w (h.set b c) := by
  have t : tame h (h.set b c) = true := tame_set hc (tame_self' h)
  rw [gc_pureT hw t]
  congr 1
  rw [List.take_of_length_le (by simp)]
abbrev bag3 (h : Hs) (b : Nat) (x n z : Int) : Hs := h.set b (.lst [.int x, .int n, .int z])
theorem bag3_get {h : Hs} {b : Nat} {x n z : Int} (hb : b < h.length) : (bag3 h b x n z)[b]? = some (.lst [.int x, .int n, .int z]) := by simp [bag3, hb]
theorem digit_e (m : Int) (h0 : 0 < m) (h1 : m < 2 ^ 64) (b : Nat) (x n z : Int) (h : Hs) (hb : h[b]? = some (.lst [.int x, .int n, .int z])) :
    ∃ r x' z' : Int, (0 ≤ r ∧ r < m) ∧ f__law_digit [.ref b, .int m] h = .ok (.int r) (bag3 h b x' n z') := by
  rw [f__law_digit_e]
  unfold b__law_digit
  have bl : b < h.length := (List.getElem?_eq_some_iff.mp hb).1
  have i0 : oIx (.ref b) (.int 0) h = .ok (.int x) h := oIx_ref hb (k := 0) rfl
  have i2 : oIx (.ref b) (.int 2) h = .ok (.int z) h := oIx_ref hb (k := 2) rfl
  have mm : ∀ i h, oMod (.int i) (.int m) h = .ok (.int (i % m)) h := fun i h => oModP h0
  have dm : ∀ i h, oDiv (.int i) (.int m) h = .ok (.int (i / m)) h := fun i h => oDivS h0 (by omega)
  have b1 := fun i => Int.emod_nonneg i (show m ≠ 0 by omega)
  have b2 := fun i => Int.emod_lt_of_pos i h0
  by_cases k : 0 < x
  · refine ⟨x % m, x / m, z, ⟨b1 x, b2 x⟩, ?_⟩
    have st : stL (.ref b) (.int 0) (.int (x / m)) h = some (bag3 h b (x / m) n z) := by
      have := stL_at (k := 0) (y := .int (x / m)) hb (by simp)
      exact this
    have e : sIf (tVal (dBin oGt (dBin oIx (dV 0) (dC (.int 0))) (dC (.int 0)))) (sSeq (sAsg (dBin oMod (dBin oIx (dV 0) (dC (.int 0))) (dV 1)) (.n 2)) (sSeq (sSub (dBin oDiv (dBin oIx (dV 0) (dC (.int 0))) (dV 1)) (dV 0) (dC (.int 0)) stL) (sRet (dV 2)))) (sNx) [some (.ref b), some (.int m), none] h = .ret (.int (x % m)) (bag3 h b (x / m) n z) := by
      simp only [sIf_e, tVal_e, dBin_e, dV_0, dC_e, Res.bind_ok, i0, oGt_i, k, decide_true, asB_b, onR_ok, if_true]
      rw [seq_nx (ρ1 := [some (.ref b), some (.int m), some (.int (x % m))]) (h1 := h) (by simp only [sAsg_e, dBin_e, dV_0, dV_1, dC_e, Res.bind_ok, i0, mm]; rfl)]
      rw [seq_nx (ρ1 := [some (.ref b), some (.int m), some (.int (x % m))]) (h1 := bag3 h b (x / m) n z) (by simp only [sSub_e, dBin_e, dV_0, dV_1, dC_e, Res.bind_ok, i0, dm, onR_ok, st])]
      simp only [sRet_e, dV_2, onR_ok]
    rw [sSeq_t, e]
    exact gc_cell rfl rfl
  · obtain ⟨v, hv⟩ : ∃ v, v = (z * 48271 + 11) % 2147483647 := ⟨_, rfl⟩
    refine ⟨v / 64 % m, x, v, ⟨b1 _, b2 _⟩, ?_⟩
    have m1 : oMul (.int z) (.int 48271) h = .ok (.int (z * 48271)) h := oMul_i (mulOK_r (by decide))
    have m2 : oMod (.int (z * 48271 + 11)) (.int 2147483647) h = .ok (.int v) h := by rw [oModP (by omega), hv]
    have st : stL (.ref b) (.int 2) (.int v) h = some (bag3 h b x n v) := by
      have := stL_at (k := 2) (y := .int v) hb (by simp)
      exact this
    have g2 : oIx (.ref b) (.int 2) (bag3 h b x n v) = .ok (.int v) (bag3 h b x n v) := oIx_ref (bag3_get bl) (k := 2) rfl
    have d64 : oDiv (.int v) (.int 64) (bag3 h b x n v) = .ok (.int (v / 64)) (bag3 h b x n v) := oDivS (by omega) (by omega)
    rw [seq_nx (ρ1 := [some (.ref b), some (.int m), none]) (h1 := h) (by
      simp only [sIf_e, tVal_e, dBin_e, dV_0, dC_e, Res.bind_ok, i0, oGt_i, k, decide_false, asB_b, onR_ok, Bool.false_eq_true, if_false, sNx_e])]
    rw [seq_nx (ρ1 := [some (.ref b), some (.int m), none]) (h1 := bag3 h b x n v) (by
      simp only [sSub_e, dBin_e, dV_0, dC_e, Res.bind_ok, i2, m1, oAdd_i, m2, onR_ok, st])]
    simp only [sRet_e, dBin_e, dV_0, dV_1, dC_e, Res.bind_ok, g2, d64, mm, onR_ok, endF_ret]
    exact gc_cell rfl rfl
theorem dugfrom_e (sp : Int) (s0 : 0 < sp) (s1 : sp ≤ 10 ^ 12) (b : Nat) : ∀ (n fuel : Nat) (x z : Int) (h : Hs), n ≤ 15 → n < fuel → h[b]? = some (.lst [.int x, .int n, .int z]) →
    ∃ (t : Tr) (n' : Nat) (x' z' : Int), n' ≤ n ∧ t.leaves + n' = 1 + n ∧ t.high ≤ n ∧ t.costs (10 ^ 12) ∧ f__law_dug_from fuel [.ref b, .int sp] h = .ok (trW t) (bag3 h b x' n' z') := by
  intro n
  induction n using Nat.strongRecOn with
  | ind n IH =>
    intro fuel x z h hn hf hb
    match fuel, hf with
    | fuel + 1, hf =>
      rw [f__law_dug_from_e]
      unfold b__law_dug_from
      have bl : b < h.length := (List.getElem?_eq_some_iff.mp hb).1
      obtain ⟨r1, x1, z1, hr1, e1⟩ := digit_e sp s0 (by omega) b x n z h hb
      have hb1 := bag3_get (x := x1) (n := (n : Int)) (z := z1) bl
      obtain ⟨r2, x2, z2, hr2, e2⟩ := digit_e 2 (by omega) (by omega) b x1 n z1 (bag3 h b x1 n z1) hb1
      have bb2 : bag3 (bag3 h b x1 n z1) b x2 n z2 = bag3 h b x2 n z2 := by simp [bag3]
      rw [bb2] at e2
      have hb2 := bag3_get (x := x2) (n := (n : Int)) (z := z2) bl
      have d3 : ∀ h, oDiv (.int sp) (.int 3) h = .ok (.int (sp / 3)) h := fun h => oDivS (by omega) (by omega)
      obtain ⟨w, hw⟩ : ∃ w, w = r1 - sp / 3 := ⟨_, rfl⟩
      have sz3 : 0 ≤ sp / 3 ∧ sp / 3 ≤ sp := by omega
      have i1 : oIx (.ref b) (.int 1) (bag3 h b x2 n z2) = .ok (.int n) (bag3 h b x2 n z2) := oIx_ref hb2 (k := 1) rfl
      rw [seq_nx (ρ1 := [some (.ref b), some (.int sp), some (.int w), none, none]) (h1 := bag3 h b x1 n z1) (by
        simp only [sAsg_e, dBin_e, dCall_e, aCons_e, aNil_e, dV_0, dV_1, dC_e, Res.bind_ok, e1, d3, oSub_i]; rw [← hw]; rfl)]
      rw [seq_nx (ρ1 := [some (.ref b), some (.int sp), some (.int w), some (.int r2), none]) (h1 := bag3 h b x2 n z2) (by
        simp only [sAsg_e, dCall_e, aCons_e, aNil_e, dV_0, dC_e, Res.bind_ok, e2]; rfl)]
      have tt : PF.tOr (tVal (dBin oEq (dV 3) (dC (.int 0)))) (tVal (dBin oEq (dBin oIx (dV 0) (dC (.int 1))) (dC (.int 0)))) [some (.ref b), some (.int sp), some (.int w), some (.int r2), none] (bag3 h b x2 n z2) = .ok (decide (r2 = 0 ∨ n = 0)) (bag3 h b x2 n z2) := by
        simp only [tOr_e, tVal_e, dBin_e, dV_0, dV_3, dC_e, Res.bind_ok, oEq_i, asB_b, i1, beq_dec]
        by_cases k : r2 = 0
        · simp [k]
        · simp [k]
      by_cases k : r2 = 0 ∨ n = 0
      · refine ⟨.en w, n, x2, z2, Nat.le_refl _, rfl, Nat.zero_le _, ⟨by omega, by omega⟩, ?_⟩
        have e : sIf (PF.tOr (tVal (dBin oEq (dV 3) (dC (.int 0)))) (tVal (dBin oEq (dBin oIx (dV 0) (dC (.int 1))) (dC (.int 0))))) (sRet (dTup (aCons (dC (.str [101, 110, 100])) (aCons (dV 2) (aNil))))) (sNx) [some (.ref b), some (.int sp), some (.int w), some (.int r2), none] (bag3 h b x2 n z2) = .ret (trW (.en w)) (bag3 h b x2 n z2) := by
          rw [sIf_e, tt]
          simp only [k, decide_true, onR_ok, if_true, sRet_e, dTup_e, aCons_e, aNil_e, dC_e, dV_2, Res.bind_ok, List.length_cons, List.length_nil, Nat.zero_add, Nat.reduceAdd, big_lit2]
          rfl
        rw [sSeq_t, e]
        exact gc_cell rfl (trW_pure _)
      · rw [seq_nx (ρ1 := [some (.ref b), some (.int sp), some (.int w), some (.int r2), none]) (h1 := bag3 h b x2 n z2) (by
          rw [sIf_e, tt]
          simp only [k, decide_false, onR_ok, Bool.false_eq_true, if_false, sNx_e])]
        have n1 : 0 < n := by
          have : ¬ n = 0 := fun z => k (.inr z)
          omega
        obtain ⟨m, rfl⟩ : ∃ m, n = m + 1 := ⟨n - 1, by omega⟩
        have xl : ixL (.ref b) (.int 1) (bag3 h b x2 ((m + 1 : Nat) : Int) z2) = some (.int ((m + 1 : Nat) : Int)) := by
          show (match (bag3 h b x2 ((m + 1 : Nat) : Int) z2)[b]? with | some (.lst ws) => if (0 : Int) ≤ 1 then ws[(1 : Int).toNat]? else none | _ => none) = _
          rw [hb2]
          rfl
        have sb : ∀ h, oSub (.int ((m + 1 : Nat) : Int)) (.int 1) h = .ok (.int (m : Int)) h := fun h => by rw [oSub_i]; congr 2; omega
        have st : stL (.ref b) (.int 1) (.int (m : Int)) (bag3 h b x2 ((m + 1 : Nat) : Int) z2) = some (bag3 h b x2 m z2) := by
          have := stL_at (k := 1) (y := .int (m : Int)) hb2 (by simp)
          refine Eq.trans this ?_
          simp [bag3]
        have hb3 := bag3_get (x := x2) (n := (m : Int)) (z := z2) bl
        obtain ⟨ty, ny, xy, zy, ny1, ly, hy, cy, ey⟩ := IH m (by omega) fuel x2 z2 (bag3 h b x2 m z2) (by omega) (by omega) hb3
        have bb4 : bag3 (bag3 h b x2 m z2) b xy ny zy = bag3 h b xy ny zy := by simp [bag3]
        rw [bb4] at ey
        have hb4 := bag3_get (x := xy) (n := (ny : Int)) (z := zy) bl
        obtain ⟨tn, nn, xn, zn, nn1, ln, hn', cn, en⟩ := IH ny (by omega) fuel xy zy (bag3 h b xy ny zy) (by omega) (by omega) hb4
        have bb5 : bag3 (bag3 h b xy ny zy) b xn nn zn = bag3 h b xn nn zn := by simp [bag3]
        rw [bb5] at en
        have hv : (Tr.fk w ty tn).leaves = ty.leaves + tn.leaves := rfl
        have hh : (Tr.fk w ty tn).high = 1 + max ty.high tn.high := rfl
        refine ⟨.fk w ty tn, nn, xn, zn, by omega, by rw [hv]; omega, by rw [hh]; omega, ⟨⟨by omega, by omega⟩, cy, cn⟩, ?_⟩
        rw [seq_nx (ρ1 := [some (.ref b), some (.int sp), some (.int w), some (.int r2), none]) (h1 := bag3 h b x2 m z2) (by
          unfold sAugX
          simp only [dV_0, dC_e, onR_ok, xl, sb, st])]
        rw [seq_nx (ρ1 := [some (.ref b), some (.int sp), some (.int w), some (.int r2), some (trW ty)]) (h1 := bag3 h b xy ny zy) (by
          simp only [sAsg_e, dCall_e, aCons_e, aNil_e, dV_0, dV_1, Res.bind_ok, ey]; rfl)]
        simp only [sRet_e, dTup_e, aCons_e, aNil_e, dC_e, dV_0, dV_1, dV_2, dV_4, dCall_e, Res.bind_ok, en, List.length_cons, List.length_nil, Nat.zero_add, Nat.reduceAdd, big_lit2, if_true, onR_ok, endF_ret]
        exact gc_cell rfl (trW_pure (.fk w ty tn))
theorem dug_e (c : Int) (h : Hs) : ∃ t : Tr, t.leaves ≤ 16 ∧ t.high ≤ 15 ∧ t.costs (10 ^ 12) ∧ f__law_dug [.int c] h = .ok (trW t) h := by
  rw [f__law_dug_e]
  unfold b__law_dug
  have d3 : ∀ h, oDiv (.int c) (.int 3) h = .ok (.int (c / 3)) h := fun h => oDivS (by omega) (by omega)
  have m3 : ∀ h, oMod (.int c) (.int 3) h = .ok (.int (c % 3)) h := fun h => oModP (by omega)
  have m1 : ∀ h, oMod (.int c) (.int 2147483647) h = .ok (.int (c % 2147483647)) h := fun h => oModP (by omega)
  have p12 : ∀ h, oPow (.int 10) (.int 12) h = .ok (.int (10 ^ 12)) h := fun h => oPow_i (by decide)
  obtain ⟨H, hH⟩ : ∃ H, H = h ++ [Cell.lst [.int (c / 3), .int 15, .int (c % 2147483647)]] := ⟨_, rfl⟩
  have ls : dLst (aCons (dBin oDiv (dV 0) (dC (.int 3))) (aCons (dC (.int 15)) (aCons (dBin oMod (dV 0) (dC (.int 2147483647))) (aNil)))) [some (.int c)] h = .ok (.ref h.length) H := by
    simp only [dLst_e, aCons_e, aNil_e, dBin_e, dV_0, dC_e, Res.bind_ok, d3, m1, List.length_cons, List.length_nil, Nat.zero_add, Nat.reduceAdd, big_lit2, if_true]
    rw [hH]; rfl
  obtain ⟨sp, hs, es⟩ : ∃ sp : Int, (0 < sp ∧ sp ≤ 10 ^ 12) ∧ dBin oIx (dGz (dLst (aCons (dC (.int 5)) (aCons (dC (.int 41)) (aCons (dBin oPow (dC (.int 10)) (dC (.int 12))) (aNil)))))) (dBin oMod (dV 0) (dC (.int 3))) [some (.int c)] H = .ok (.int sp) H := by
    have z : dGz (dLst (aCons (dC (.int 5)) (aCons (dC (.int 41)) (aCons (dBin oPow (dC (.int 10)) (dC (.int 12))) (aNil))))) [some (.int c)] H = .ok (.fl [.int 5, .int 41, .int (10 ^ 12)]) H := by
      refine lst_gz ?_ (by simp) rfl
      simp only [aCons_e, aNil_e, dBin_e, dC_e, Res.bind_ok, p12]
    have r : dBin oMod (dV 0) (dC (.int 3)) [some (.int c)] H = .ok (.int (c % 3)) H := by simp only [dBin_e, dV_0, dC_e, Res.bind_ok, m3]
    rw [dBin_e, z, Res.bind_ok, r, Res.bind_ok]
    have b1 := Int.emod_nonneg c (show (3 : Int) ≠ 0 by omega)
    have b2 := Int.emod_lt_of_pos c (show (0 : Int) < 3 by omega)
    have : c % 3 = 0 ∨ c % 3 = 1 ∨ c % 3 = 2 := by omega
    rcases this with e | e | e
    · rw [e]; exact ⟨5, by omega, rfl⟩
    · rw [e]; exact ⟨41, by omega, rfl⟩
    · rw [e]; exact ⟨10 ^ 12, by omega, rfl⟩
  obtain ⟨t, n', x', z', a1, a2, a3, a4, e⟩ := dugfrom_e sp hs.1 hs.2 h.length 15 64 (c / 3) (c % 2147483647) H (by omega) (by omega) (by rw [hH]; simp)
  refine ⟨t, by omega, a3, a4, ?_⟩
  have hb : bag3 H h.length x' n' z' = h ++ [Cell.lst [.int x', .int n', .int z']] := by rw [hH]; simp [bag3]
  rw [hb] at e
  have er : dCall (f__law_dug_from 64) (aCons (dLst (aCons (dBin oDiv (dV 0) (dC (.int 3))) (aCons (dC (.int 15)) (aCons (dBin oMod (dV 0) (dC (.int 2147483647))) (aNil))))) (aCons (dBin oIx (dGz (dLst (aCons (dC (.int 5)) (aCons (dC (.int 41)) (aCons (dBin oPow (dC (.int 10)) (dC (.int 12))) (aNil)))))) (dBin oMod (dV 0) (dC (.int 3)))) (aNil))) [some (.int c)] h = .ok (trW t) (h ++ [Cell.lst [.int x', .int n', .int z']]) := by
    rw [dCall_e, aCons_e, ls, Res.bind_ok, aCons_e, es, Res.bind_ok, aNil_e, Res.bind_ok, Res.bind_ok, Res.bind_ok, e]
  rw [sRet_e, er, onR_ok, endF_ret]
  exact gc_pure (trW_pure t)
end Law
end PF
namespace PF
namespace Law
/-- the cells of the tree, as the laws draw them -/
theorem cut_cells (ns : List Int) (ρ : Env) (h0 : ∀ h, dV 0 ρ h = .ok (.fl (ns.map W.int)) h) (h : Hs) :
    dGz (dBin oAdd (dGz (dLst (aCons (dCall f__law_cell (aCons (dV 0) (aCons (dC (.int 2)) (aNil)))) (aNil)))) (dGz (dSl (dV 0) (pAt (dC (.int 3))) (pAt (dC (.int 23)))))) ρ h = .ok (.fl ((ns[2]?.getD 0 :: (ns.take 23).drop 3).map W.int)) h := by
  have q := sl_lohi (d := dV 0) (ρ := ρ) (h := h) (ws := ns.map W.int) 3 23 (h0 h) (by rw [← List.map_take, ← List.map_drop]; exact ints_pure _) (pAt (dC (.int 3))) (pAt (dC (.int 23))) rfl rfl
  rw [← List.map_take, ← List.map_drop] at q
  have z1 : dGz (dLst (aCons (dCall f__law_cell (aCons (dV 0) (aCons (dC (.int 2)) (aNil)))) (aNil))) ρ h = .ok (.fl [.int (ns[2]?.getD 0)]) h := by
    refine lst_gz ?_ (by simp) rfl
    simp only [aCons_e, aNil_e, dCall_e, h0, dC_e, Res.bind_ok, cell_2]
  rw [dGz_e, dBin_e, z1, Res.bind_ok, q, Res.bind_ok, oAdd_flfl (by rw [List.length_map, List.length_drop, List.length_take, List.length_singleton]; unfold bigL; omega)]
  exact gc_newL (ints_pure (ns[2]?.getD 0 :: (ns.take 23).drop 3))
end Law
end PF
namespace PF
namespace Law
theorem steps_pl (B : Int) (t : Tr) (K : Nat) : W.pl 3 (.fl (stepsW B t K)) = true := by
  show (stepsW B t K).all (W.pl 2) = true
  unfold stepsW
  rw [List.all_map]
  refine List.all_eq_true.mpr fun i _ => ?_
  show W.pl 2 (.tup [rat (yk B t i), .fl ((bst B (yk B t i) t []).2.map W.str)]) = true
  show ([rat (yk B t i), .fl ((bst B (yk B t i) t []).2.map W.str)] : List W).all (W.pl 1) = true
  rw [List.all_cons, List.all_cons, List.all_nil, strs_pl, rat_pl 0]; rfl
end Law
end PF
namespace PF
namespace Law
theorem divI_le {x y c : Int} (hc : 0 < c) : Rat.divInt x c ≤ Rat.divInt y c ↔ x ≤ y := by
  rw [Rat.divInt_eq_div, Rat.divInt_eq_div]
  have h1 : (0 : Rat) < (c : Rat) := by
    have : ((0 : Int) : Rat) < (c : Rat) := Rat.intCast_lt_intCast.mpr hc
    rwa [Rat.intCast_zero] at this
  have e : (x : Rat) / (c : Rat) * (c : Rat) = x := by
    generalize (c : Rat) = z at *
    have : z ≠ 0 := by grind
    grind
  rw [← Rat.not_lt, Rat.div_lt_iff h1, e, Rat.intCast_lt_intCast]
  omega
theorem divI_lt {x y c d : Int} (hc : 0 < c) (hd : 0 < d) : Rat.divInt x c < Rat.divInt y d ↔ x * d < y * c := by
  have e1 : Rat.divInt x c = Rat.divInt (x * d) (c * d) := by rw [Rat.divInt_mul_right (by omega)]
  have e2 : Rat.divInt y d = Rat.divInt (y * c) (c * d) := by rw [Int.mul_comm c d, Rat.divInt_mul_right (by omega)]
  rw [e1, e2, ← Rat.not_le, divI_le (Int.mul_pos hc hd)]
  omega
theorem divI_pos {x c : Int} (hc : 0 < c) : 0 < Rat.divInt x c ↔ 0 < x := by
  have e : (0 : Rat) = Rat.divInt 0 1 := by rfl
  rw [e, divI_lt (by omega) hc]
  omega
end Law
end PF
namespace PF
namespace Law
def shS (q : List Nat) (cur one : List Nat) : List Nat := if q.take one.length = one ∧ one.length < cur.length then one else cur
def sh (S : List (List Nat)) (q : List Nat) : List Nat := S.foldl (shS q) q
def addS (ks : List (List Nat)) (s : List Nat) : List (List Nat) := if s ∈ ks then ks else ks ++ [s]
def dueP (L S : List (List Nat)) : List (List Nat) := sortS (L.foldl (fun made q => addS made (sh S q)) [])
theorem sh_facts (q : List Nat) : ∀ (S : List (List Nat)) (cur : List Nat), (S.foldl (shS q) cur = cur ∨ (S.foldl (shS q) cur ∈ S ∧ S.foldl (shS q) cur <+: q ∧ (S.foldl (shS q) cur).length < cur.length)) ∧
    (S.foldl (shS q) cur).length ≤ cur.length ∧ ∀ o, o ∈ S → o <+: q → o.length < cur.length → (S.foldl (shS q) cur).length ≤ o.length
  | [], cur => ⟨.inl rfl, Nat.le_refl _, fun _ h => by cases h⟩
  | s :: S, cur => by
    rw [List.foldl_cons]
    obtain ⟨a, b, c⟩ := sh_facts q S (shS q cur s)
    by_cases k : q.take s.length = s ∧ s.length < cur.length
    · have e : shS q cur s = s := if_pos k
      rw [e] at a b c ⊢
      have sp : s <+: q := by rw [List.prefix_iff_eq_take]; exact k.1.symm
      refine ⟨.inr ?_, by omega, fun o ho hp hl => ?_⟩
      · rcases a with a | ⟨a1, a2, a3⟩
        · rw [a]; exact ⟨List.mem_cons_self .., sp, k.2⟩
        · exact ⟨List.mem_cons_of_mem _ a1, a2, by omega⟩
      · rcases List.mem_cons.mp ho with rfl | ho
        · exact b
        · by_cases z : o.length < s.length
          · exact c o ho hp z
          · omega
    · have e : shS q cur s = cur := if_neg k
      rw [e] at a b c ⊢
      refine ⟨a.imp id fun ⟨a1, a2, a3⟩ => ⟨List.mem_cons_of_mem _ a1, a2, a3⟩, b, fun o ho hp hl => ?_⟩
      rcases List.mem_cons.mp ho with rfl | ho
      · exact absurd ⟨(List.prefix_iff_eq_take.mp hp).symm, hl⟩ k
      · exact c o ho hp hl
theorem made_facts (f : List Nat → List Nat) : ∀ (L made : List (List Nat)), made.Nodup → (L.foldl (fun made q => addS made (f q)) made).Nodup ∧ ∀ s, s ∈ L.foldl (fun made q => addS made (f q)) made ↔ s ∈ made ∨ ∃ q, q ∈ L ∧ f q = s
  | [], made, nd => ⟨nd, fun s => by simp⟩
  | q :: L, made, nd => by
    rw [List.foldl_cons]
    have nd2 : (addS made (f q)).Nodup := by
      unfold addS
      split
      · exact nd
      · rename_i z
        rw [List.nodup_append]
        exact ⟨nd, by simp, fun a ha b hb => by
          rw [List.mem_singleton] at hb
          rintro rfl
          exact z (hb ▸ ha)⟩
    have mem2 : ∀ s, s ∈ addS made (f q) ↔ s ∈ made ∨ f q = s := fun s => by
      unfold addS
      split
      · rename_i z
        exact ⟨.inl, fun h => h.elim id fun h => h ▸ z⟩
      · rw [List.mem_append, List.mem_singleton]
        exact ⟨fun h => h.imp id Eq.symm, fun h => h.imp id Eq.symm⟩
    obtain ⟨a, b⟩ := made_facts f L _ nd2
    refine ⟨a, fun s => ?_⟩
    rw [b, mem2]
    constructor
    · rintro ((h | h) | ⟨r, hr, h⟩)
      · exact .inl h
      · exact .inr ⟨q, List.mem_cons_self .., h⟩
      · exact .inr ⟨r, List.mem_cons_of_mem _ hr, h⟩
    · rintro (h | ⟨r, hr, h⟩)
      · exact .inl (.inl h)
      · rcases List.mem_cons.mp hr with rfl | hr
        · exact .inl (.inr h)
        · exact .inr ⟨r, hr, h⟩
theorem cut_due {t : Tr} {p : List Nat} {L F S : List (List Nat)} (hc : CutF t p L F) (nd : S.Nodup) (sub : ∀ s, s ∈ S → s ∈ F) : cutP L S = dueP L S := by
  obtain ⟨f1, f2, f3, f4, f5, f6⟩ := hc.facts
  have lt : ∀ q o, q ∈ L → o ∈ S → o <+: q → o.length < q.length := fun q o hq ho hp => by
    rcases Nat.lt_or_ge o.length q.length with h | h
    · exact h
    · exact absurd (hp.eq_of_length_le h ▸ sub o ho) (f3 q hq)
  have shA : ∀ q, q ∈ L → (∀ o, o ∈ S → ¬ o <+: q) → sh S q = q := fun q _ h => by
    obtain ⟨a, _, _⟩ := sh_facts q S q
    rcases a with a | ⟨a1, a2, _⟩
    · exact a
    · exact absurd a2 (h _ a1)
  have shB : ∀ q o, q ∈ L → o ∈ S → o <+: q → sh S q ∈ S ∧ sh S q <+: q ∧ (sh S q).length ≤ o.length := fun q o hq ho hp => by
    obtain ⟨a, _, c⟩ := sh_facts q S q
    have l1 := c o ho hp (lt q o hq ho hp)
    have l2 := lt q o hq ho hp
    rcases a with a | ⟨a1, a2, _⟩
    · exfalso
      have : (sh S q).length = q.length := congrArg List.length a
      have l3 : (sh S q).length ≤ o.length := l1
      omega
    · exact ⟨a1, a2, l1⟩
  have minS : ∀ q o, q ∈ L → o ∈ S → o <+: q → ∀ r, r ∈ S → r <+: sh S q → r = sh S q := fun q o hq ho hp r hr hrp => by
    obtain ⟨b1, b2, _⟩ := shB q o hq ho hp
    obtain ⟨_, _, b3⟩ := shB q r hq hr (hrp.trans b2)
    exact hrp.eq_of_length_le b3
  obtain ⟨m1, m2⟩ := made_facts (sh S) L [] List.nodup_nil
  unfold cutP dueP
  refine sortS_of ((sortS_perm _).trans ((List.perm_ext_iff_of_nodup ?_ m1).mpr fun s => ?_)) (sortS_pw _)
  · rw [List.nodup_append]
    refine ⟨f1.sublist List.filter_sublist, nd.sublist List.filter_sublist, fun a ha b hb e => ?_⟩
    exact f3 a (List.mem_filter.mp ha).1 (e ▸ sub b (List.mem_filter.mp hb).1)
  · rw [m2, List.mem_append]
    constructor
    · rintro (h | h)
      · obtain ⟨hq, h0⟩ := List.mem_filter.mp h
        exact .inr ⟨s, hq, shA s hq (tops_none.mp (of_decide_eq_true h0))⟩
      · obtain ⟨ho, h1⟩ := List.mem_filter.mp h
        have h1 := (tops_one nd ho).mp (of_decide_eq_true h1)
        obtain ⟨q, hq, hp⟩ := f5 s (sub s ho)
        obtain ⟨b1, b2, b3⟩ := shB q s hq ho hp
        exact .inr ⟨q, hq, h1 _ b1 (List.prefix_of_prefix_length_le b2 hp b3)⟩
    · rintro (h | ⟨q, hq, rfl⟩)
      · cases h
      · by_cases k : ∃ o, o ∈ S ∧ o <+: q
        · obtain ⟨o, ho, hp⟩ := k
          obtain ⟨b1, b2, b3⟩ := shB q o hq ho hp
          exact .inr (List.mem_filter.mpr ⟨b1, decide_eq_true ((tops_one nd b1).mpr (minS q o hq ho hp))⟩)
        · have k : ∀ o, o ∈ S → ¬ o <+: q := fun o ho hp => k ⟨o, ho, hp⟩
          rw [shA q hq k]
          exact .inl (List.mem_filter.mpr ⟨hq, decide_eq_true (tops_none.mpr k)⟩)
end Law
end PF
namespace PF
namespace Law
/-! ### the law's own links, in whole numbers -/
def ilk (B : Int) (y : Rat) : Tr → List Nat → List (List Nat × Int × Nat)
  | .en _, _ => []
  | .fk c t u, p => if ins B y c t u then (p, c - (bsm B y t + bsm B y u), bn B y t + bn B y u - 1) :: (ilk B y u (p ++ sN) ++ ilk B y t (p ++ sY)) else []
def ilW (x : List Nat × Int × Nat) : W := .tup [.str x.1, .int x.2.1, .int (x.2.2 : Int)]
def ilq (B : Int) (x : List Nat × Int × Nat) : List Nat × Rat := (x.1, Rat.divInt x.2.1 (B * (x.2.2 : Int)))
theorem div_divI {a b c : Int} (hc : 0 < c) (hb : 0 < b) : Rat.divInt a c / (b : Rat) = Rat.divInt a (c * b) := by
  rw [Rat.divInt_eq_div, Rat.divInt_eq_div, Rat.intCast_mul]
  have h1 : (0 : Rat) < (c : Rat) := by
    have : ((0 : Int) : Rat) < (c : Rat) := Rat.intCast_lt_intCast.mpr hc
    rwa [Rat.intCast_zero] at this
  have h2 : (0 : Rat) < (b : Rat) := by
    have : ((0 : Int) : Rat) < (b : Rat) := Rat.intCast_lt_intCast.mpr hb
    rwa [Rat.intCast_zero] at this
  generalize (c : Rat) = z at *
  generalize (b : Rat) = x at *
  have : z ≠ 0 := by grind
  have : x ≠ 0 := by grind
  grind
theorem sub_divI {a b c : Int} (hc : 0 < c) : Rat.divInt a c - Rat.divInt b c = Rat.divInt (a - b) c := by
  have := div_sum (a := a - b) (b := b) hc
  rw [Int.sub_add_cancel] at this
  rw [← this]
  grind
theorem ilk_lnk {B : Int} (hB : 0 < B) (y : Rat) : ∀ (t : Tr) (p : List Nat), (ilk B y t p).map (ilq B) = lnk B y t p
  | .en _, _ => rfl
  | .fk c t u, p => by
    unfold ilk lnk
    split
    · rw [List.map_cons, List.map_append, ilk_lnk hB y u, ilk_lnk hB y t]
      congr 1
      have n1 := bn_pos B y t
      have n2 := bn_pos B y u
      unfold ilq lk
      dsimp only
      have e : ((bn B y t + bn B y u - 1 : Nat) : Int) = ((bn B y t + bn B y u : Nat) : Int) - 1 := by omega
      rw [sub_divI hB, div_divI hB (by omega), e]
    · rfl
theorem ilk_pos (B : Int) (y : Rat) : ∀ (t : Tr) (p : List Nat) (x : List Nat × Int × Nat), x ∈ ilk B y t p → 1 ≤ x.2.2
  | .en _, _, x, h => by cases h
  | .fk c t u, p, x, h => by
    unfold ilk at h
    have n1 := bn_pos B y t
    have n2 := bn_pos B y u
    split at h
    · rcases List.mem_cons.mp h with e | h
      · rw [e]; show 1 ≤ bn B y t + bn B y u - 1; omega
      · rcases List.mem_append.mp h with h | h
        · exact ilk_pos B y u _ x h
        · exact ilk_pos B y t _ x h
    · cases h
theorem ilk_len (B : Int) (y : Rat) : ∀ (t : Tr) (p : List Nat), (ilk B y t p).length + 1 = bn B y t
  | .en c, p => rfl
  | .fk c t u, p => by
    have h1 := ilk_len B y t (p ++ sY)
    have h2 := ilk_len B y u (p ++ sN)
    unfold ilk
    rw [bn_fk]
    split
    · rw [List.length_cons, List.length_append]; omega
    · rfl
theorem ilk_sz (B : Int) (y : Rat) : ∀ (t : Tr) (p : List Nat) (x : List Nat × Int × Nat), x ∈ ilk B y t p → t.leaves ≤ 100 → t.costs (2 ^ 105) → p.length + t.high < 1000 → x.2.1.natAbs < 2 ^ 114 ∧ x.2.2 < 100 ∧ x.1.length < 1000
  | .en _, _, x, h, _, _, _ => by cases h
  | .fk c t u, p, x, h, hl, tc, hp => by
    unfold ilk at h
    have hv : (Tr.fk c t u).leaves = t.leaves + u.leaves := rfl
    have hh : (Tr.fk c t u).high = 1 + max t.high u.high := rfl
    rw [hv] at hl
    rw [hh] at hp
    have sz : -(2 ^ 105) ≤ c ∧ c ≤ 2 ^ 105 := tc.1
    have lt := t.leaves_pos
    have lu := u.leaves_pos
    have s1 := bsm_sz (B := B) y (t := t) (by omega) tc.2.1
    have s2 := bsm_sz (B := B) y (t := u) (by omega) tc.2.2
    have m1 := bn_le B y t
    have m2 := bn_le B y u
    split at h
    · rcases List.mem_cons.mp h with e | h
      · rw [e]
        refine ⟨?_, ?_, ?_⟩
        · show (c - (bsm B y t + bsm B y u)).natAbs < 2 ^ 114; omega
        · show bn B y t + bn B y u - 1 < 100; omega
        · show p.length < 1000; omega
      · rcases List.mem_append.mp h with h | h
        · exact ilk_sz B y u _ x h (by omega) tc.2.2 (by simp; omega)
        · exact ilk_sz B y t _ x h (by omega) tc.2.1 (by simp; omega)
    · cases h
/-- the best at a price, with the forks inside -/
theorem bst_F (B : Int) (y : Rat) : ∀ (t : Tr) (p : List Nat), CutF t p (bst B y t p).2 ((lnk B y t p).map Prod.fst)
  | .en c, p => .here (.en c) p
  | .fk c t u, p => by
    rw [bst_fk]
    unfold lnk
    split
    · rw [List.map_cons, List.map_append]
      exact .split (bst_F B y t _) (bst_F B y u _)
    · exact .here _ p
theorem bv0 {B : Int} (hB : 0 < B) (t : Tr) : bv B 0 t = Rat.divInt (bsm B 0 t) B := by
  rw [bv_val hB]
  unfold val
  grind
theorem ins0 {B : Int} (hB : 0 < B) (c : Int) (t u : Tr) : ins B 0 c t u ↔ bsm B 0 t + bsm B 0 u < c := by
  unfold ins
  rw [bv0 hB, bv0 hB, div_sum hB]
  have e : Rat.divInt c B + 0 = Rat.divInt c B := by grind
  rw [e, divI_lt hB hB]
  exact ⟨fun h => Int.lt_of_mul_lt_mul_right h (Int.le_of_lt hB), fun h => Int.mul_lt_mul_of_pos_right h hB⟩
theorem tr0 (t : Tr) (h : Hs) : oIx (trW t) (.int 0) h = .ok (.str (kindOf t)) h := by cases t <;> exact oIx_t0
theorem tr1 (t : Tr) (h : Hs) : oIx (trW t) (.int 1) h = .ok (.int (tcost t)) h := by cases t <;> exact oIx_t1
theorem cut_small {B : Int} (y : Rat) (t : Tr) (p : List Nat) : (bst B y t p).2.length ≤ t.leaves := ((bst_S (B := B) y t p).cut.len).2
theorem first_e {B : Int} (hB : 0 < B) : ∀ (t : Tr) (n : Nat) (p : List Nat) (h : Hs), t.high < n → p.length + t.high < 1000 → t.leaves ≤ 100 → f__law_first n [trW t, .str p] h = .ok (.tup [.int (bsm B 0 t), .fl ((bst B 0 t p).2.map W.str)]) h
  | .en c, 0, p, h, hn, _, _ => by omega
  | .fk c t u, 0, p, h, hn, _, _ => by omega
  | .en c, n + 1, p, h, hn, hp, hl => by
    rw [f__law_first_e]
    unfold b__law_first
    have t0 := fun h => tr0 (.en c) h
    have t1 := fun h => tr1 (.en c) h
    have t0 : ∀ h, oIx (trW (.en c)) (.int 0) h = .ok (.str [101, 110, 100]) h := t0
    have t1 : ∀ h, oIx (trW (.en c)) (.int 1) h = .ok (.int c) h := t1
    generalize trW (.en c) = TW at *
    have lz : dGz (dLst (aCons (dV 1) (aNil))) [some TW, some (.str p), none, none] h = .ok (.fl [.str p]) h := lst_gz rfl (by simp) rfl
    simp only [sSeq_t, then_nx, then_ret, then_bk, then_ct, then_exc, sAsg_e, sIf_e, sRet_e, sRetN_e, sExp_e, sNx_e, sBrk_e, sCnt_e, sRaise_e, sFor_e, onR_ok, onR_exc, onO_some, run_n, run_t, runs_nil, runs_cons, Option.bind_some, dV_0, dV_1, dV_2, dV_3, dV_4, dV_5, dV_6, dV_7, dV_8, dV_9, dV_10, dV_11, dV_12, dV_13, dV_14, dV_15, dV_16, dC_e, dBin_e, dUn_e, dAnd_e, dOr_e, dNot_e, tVal_e, tAnd_e, tOr_e, tNot_e, dIf_e, dCall_e, aNil_e, aCons_e, dTup_e, Res.bind_ok, Res.bind_exc, asB_b, oAdd_i, oSub_i, oLt_i, oLe_i, oGt_i, oGe_i, oNeg_i, oEq_d, oNe_d, oEq_s, oNe_s, oAddI_i, bLen_fl, bLen_tup, bMax2_i, bMin2_i, List.length_cons, List.length_nil, List.length_map, Nat.zero_add, Nat.reduceAdd, Nat.reduceLT, big_lit0, big_lit1, big_lit2, big_lit3, big_lit4, if_true, if_false, List.set_cons_zero, List.set_cons_succ, decide_true, decide_false, Bool.not_true, Bool.not_false, Bool.false_eq_true, Bool.true_eq_false, decide_eq_true_eq, endF_ret, endF_nx, endF_exc, pAt_int, pNo_e, dSl_e, newL_e, cast0, cast1, cast2, cast3, cast4, cast5, t0, t1, lz]
    exact gc_same _
  | .fk c t u, n + 1, p, h, hn, hp, hl => by
    have hv : (Tr.fk c t u).leaves = t.leaves + u.leaves := rfl
    have hh : (Tr.fk c t u).high = 1 + max t.high u.high := rfl
    rw [hv] at hl
    rw [hh] at hn hp
    have lt := t.leaves_pos
    have lu := u.leaves_pos
    have r1 := first_e hB t n (p ++ sY) h (by omega) (by simp; omega) (by omega)
    have r2 := first_e hB u n (p ++ sN) h (by omega) (by simp; omega) (by omega)
    have k1 := cut_small (B := B) 0 t (p ++ sY)
    have k2 := cut_small (B := B) 0 u (p ++ sN)
    rw [f__law_first_e, bsm_fk, bst_fk]
    unfold b__law_first
    have i0 := ins0 hB c t u
    have t0 := fun h => tr0 (.fk c t u) h
    have t1 := fun h => tr1 (.fk c t u) h
    have t0 : ∀ h, oIx (trW (.fk c t u)) (.int 0) h = .ok (.str [102, 111, 114, 107]) h := t0
    have t1 : ∀ h, oIx (trW (.fk c t u)) (.int 1) h = .ok (.int c) h := t1
    have t2 : ∀ h, oIx (trW (.fk c t u)) (.int 2) h = .ok (trW t) h := fun h => oIx_tup (k := 2) rfl
    have t3 : ∀ h, oIx (trW (.fk c t u)) (.int 3) h = .ok (trW u) h := fun h => oIx_tup (k := 3) rfl
    have pY : ∀ h, oAdd (.str p) (.str [121]) h = .ok (.str (p ++ sY)) h := fun h => oAdd_str (by unfold bigL; simp; omega)
    have pN : ∀ h, oAdd (.str p) (.str [110]) h = .ok (.str (p ++ sN)) h := fun h => oAdd_str (by unfold bigL; simp; omega)
    obtain ⟨A, hA⟩ : ∃ A, A = (bst B 0 t (p ++ sY)).2 := ⟨_, rfl⟩
    obtain ⟨C, hC⟩ : ∃ C, C = (bst B 0 u (p ++ sN)).2 := ⟨_, rfl⟩
    obtain ⟨a, ha⟩ : ∃ a, a = bsm B 0 t := ⟨_, rfl⟩
    obtain ⟨b, hb⟩ : ∃ b, b = bsm B 0 u := ⟨_, rfl⟩
    rw [← hA, ← ha] at r1
    rw [← hC, ← hb] at r2
    rw [← ha, ← hb] at i0
    rw [← hA] at k1
    rw [← hC] at k2
    rw [← hA, ← hC, ← ha, ← hb]
    generalize trW (.fk c t u) = TW at *
    generalize trW t = TT at *
    generalize trW u = TU at *
    have kz : decide (([102, 111, 114, 107] : List Nat) = [101, 110, 100]) = false := by decide
    obtain ⟨RA, hRA⟩ : ∃ RA, RA = W.tup [.int a, .fl (A.map W.str)] := ⟨_, rfl⟩
    obtain ⟨RC, hRC⟩ : ∃ RC, RC = W.tup [.int b, .fl (C.map W.str)] := ⟨_, rfl⟩
    have a0 : ∀ h, oIx RA (.int 0) h = .ok (.int a) h := fun h => by rw [hRA]; exact oIx_t0
    have a1 : ∀ h, oIx RA (.int 1) h = .ok (.fl (A.map W.str)) h := fun h => by rw [hRA]; exact oIx_t1
    have c0 : ∀ h, oIx RC (.int 0) h = .ok (.int b) h := fun h => by rw [hRC]; exact oIx_t0
    have c1 : ∀ h, oIx RC (.int 1) h = .ok (.fl (C.map W.str)) h := fun h => by rw [hRC]; exact oIx_t1
    rw [← hRA] at r1
    rw [← hRC] at r2
    rw [seq_nx (ρ1 := [some TW, some (.str p), none, none]) (h1 := h) (by simp only [sSeq_t, then_nx, then_ret, then_bk, then_ct, then_exc, sAsg_e, sIf_e, sRet_e, sRetN_e, sExp_e, sNx_e, sBrk_e, sCnt_e, sRaise_e, sFor_e, onR_ok, onR_exc, onO_some, run_n, run_t, runs_nil, runs_cons, Option.bind_some, dV_0, dV_1, dV_2, dV_3, dV_4, dV_5, dV_6, dV_7, dV_8, dV_9, dV_10, dV_11, dV_12, dV_13, dV_14, dV_15, dV_16, dC_e, dBin_e, dUn_e, dAnd_e, dOr_e, dNot_e, tVal_e, tAnd_e, tOr_e, tNot_e, dIf_e, dCall_e, aNil_e, aCons_e, dTup_e, Res.bind_ok, Res.bind_exc, asB_b, oAdd_i, oSub_i, oLt_i, oLe_i, oGt_i, oGe_i, oNeg_i, oEq_d, oNe_d, oEq_s, oNe_s, oAddI_i, bLen_fl, bLen_tup, bMax2_i, bMin2_i, List.length_cons, List.length_nil, List.length_map, Nat.zero_add, Nat.reduceAdd, Nat.reduceLT, big_lit0, big_lit1, big_lit2, big_lit3, big_lit4, if_true, if_false, List.set_cons_zero, List.set_cons_succ, decide_true, decide_false, Bool.not_true, Bool.not_false, Bool.false_eq_true, Bool.true_eq_false, decide_eq_true_eq, endF_ret, endF_nx, endF_exc, pAt_int, pNo_e, dSl_e, newL_e, cast0, cast1, cast2, cast3, cast4, cast5, t0, kz])]
    rw [seq_nx (ρ1 := [some TW, some (.str p), some RA, none]) (h1 := h) (by simp only [sSeq_t, then_nx, then_ret, then_bk, then_ct, then_exc, sAsg_e, sIf_e, sRet_e, sRetN_e, sExp_e, sNx_e, sBrk_e, sCnt_e, sRaise_e, sFor_e, onR_ok, onR_exc, onO_some, run_n, run_t, runs_nil, runs_cons, Option.bind_some, dV_0, dV_1, dV_2, dV_3, dV_4, dV_5, dV_6, dV_7, dV_8, dV_9, dV_10, dV_11, dV_12, dV_13, dV_14, dV_15, dV_16, dC_e, dBin_e, dUn_e, dAnd_e, dOr_e, dNot_e, tVal_e, tAnd_e, tOr_e, tNot_e, dIf_e, dCall_e, aNil_e, aCons_e, dTup_e, Res.bind_ok, Res.bind_exc, asB_b, oAdd_i, oSub_i, oLt_i, oLe_i, oGt_i, oGe_i, oNeg_i, oEq_d, oNe_d, oEq_s, oNe_s, oAddI_i, bLen_fl, bLen_tup, bMax2_i, bMin2_i, List.length_cons, List.length_nil, List.length_map, Nat.zero_add, Nat.reduceAdd, Nat.reduceLT, big_lit0, big_lit1, big_lit2, big_lit3, big_lit4, if_true, if_false, List.set_cons_zero, List.set_cons_succ, decide_true, decide_false, Bool.not_true, Bool.not_false, Bool.false_eq_true, Bool.true_eq_false, decide_eq_true_eq, endF_ret, endF_nx, endF_exc, pAt_int, pNo_e, dSl_e, newL_e, cast0, cast1, cast2, cast3, cast4, cast5, t2, pY, r1])]
    rw [seq_nx (ρ1 := [some TW, some (.str p), some RA, some RC]) (h1 := h) (by simp only [sSeq_t, then_nx, then_ret, then_bk, then_ct, then_exc, sAsg_e, sIf_e, sRet_e, sRetN_e, sExp_e, sNx_e, sBrk_e, sCnt_e, sRaise_e, sFor_e, onR_ok, onR_exc, onO_some, run_n, run_t, runs_nil, runs_cons, Option.bind_some, dV_0, dV_1, dV_2, dV_3, dV_4, dV_5, dV_6, dV_7, dV_8, dV_9, dV_10, dV_11, dV_12, dV_13, dV_14, dV_15, dV_16, dC_e, dBin_e, dUn_e, dAnd_e, dOr_e, dNot_e, tVal_e, tAnd_e, tOr_e, tNot_e, dIf_e, dCall_e, aNil_e, aCons_e, dTup_e, Res.bind_ok, Res.bind_exc, asB_b, oAdd_i, oSub_i, oLt_i, oLe_i, oGt_i, oGe_i, oNeg_i, oEq_d, oNe_d, oEq_s, oNe_s, oAddI_i, bLen_fl, bLen_tup, bMax2_i, bMin2_i, List.length_cons, List.length_nil, List.length_map, Nat.zero_add, Nat.reduceAdd, Nat.reduceLT, big_lit0, big_lit1, big_lit2, big_lit3, big_lit4, if_true, if_false, List.set_cons_zero, List.set_cons_succ, decide_true, decide_false, Bool.not_true, Bool.not_false, Bool.false_eq_true, Bool.true_eq_false, decide_eq_true_eq, endF_ret, endF_nx, endF_exc, pAt_int, pNo_e, dSl_e, newL_e, cast0, cast1, cast2, cast3, cast4, cast5, t3, pN, r2])]
    by_cases k : a + b < c
    · rw [if_pos (i0.mpr k), if_pos (i0.mpr k)]
      rw [seq_nx (ρ1 := [some TW, some (.str p), some RA, some RC]) (h1 := h) (by simp only [sSeq_t, then_nx, then_ret, then_bk, then_ct, then_exc, sAsg_e, sIf_e, sRet_e, sRetN_e, sExp_e, sNx_e, sBrk_e, sCnt_e, sRaise_e, sFor_e, onR_ok, onR_exc, onO_some, run_n, run_t, runs_nil, runs_cons, Option.bind_some, dV_0, dV_1, dV_2, dV_3, dV_4, dV_5, dV_6, dV_7, dV_8, dV_9, dV_10, dV_11, dV_12, dV_13, dV_14, dV_15, dV_16, dC_e, dBin_e, dUn_e, dAnd_e, dOr_e, dNot_e, tVal_e, tAnd_e, tOr_e, tNot_e, dIf_e, dCall_e, aNil_e, aCons_e, dTup_e, Res.bind_ok, Res.bind_exc, asB_b, oAdd_i, oSub_i, oLt_i, oLe_i, oGt_i, oGe_i, oNeg_i, oEq_d, oNe_d, oEq_s, oNe_s, oAddI_i, bLen_fl, bLen_tup, bMax2_i, bMin2_i, List.length_cons, List.length_nil, List.length_map, Nat.zero_add, Nat.reduceAdd, Nat.reduceLT, big_lit0, big_lit1, big_lit2, big_lit3, big_lit4, if_true, if_false, List.set_cons_zero, List.set_cons_succ, decide_true, decide_false, Bool.not_true, Bool.not_false, Bool.false_eq_true, Bool.true_eq_false, decide_eq_true_eq, endF_ret, endF_nx, endF_exc, pAt_int, pNo_e, dSl_e, newL_e, cast0, cast1, cast2, cast3, cast4, cast5, t1, a0, c0, decide_eq_false (show ¬ c ≤ a + b by omega)])]
      have ad : ∀ h, oAdd (.fl (C.map W.str)) (.fl (A.map W.str)) h = newL ((C ++ A).map W.str) h := fun h => by
        rw [oAdd_flfl (by rw [List.length_map, List.length_map]; unfold bigL; omega), ← List.map_append]
      have pu : W.pures ((C ++ A).map W.str) = true := strs_pure _
      obtain ⟨CA, hCA⟩ : ∃ CA, CA = (C ++ A).map W.str := ⟨_, rfl⟩
      rw [← hCA] at pu ⊢
      simp only [← hCA] at ad
      have gg : gc h (.ok (.tup [.int (a + b), .ref h.length]) (h ++ [.lst CA])) = .ok (.tup [.int (a + b), .fl CA]) h := by
        unfold gc
        dsimp only
        rw [if_pos (tame_app h _)]
        have e1 : (h ++ [Cell.lst CA])[h.length]? = some (.lst CA) := by simp
        have fi : ∀ n, fzW (h ++ [Cell.lst CA]) h.length n (.int (a + b)) = some (.int (a + b)) := fun n => fz_pure rfl
        have fr : fzW (h ++ [Cell.lst CA]) h.length 59 (.ref h.length) = some (.fl CA) := fz_ref (d := 58) (Nat.le_refl _) e1 pu
        have : fzW (h ++ [Cell.lst CA]) h.length 60 (.tup [.int (a + b), .ref h.length]) = some (.tup [.int (a + b), .fl CA]) := by
          show fzW _ h.length (59 + 1) _ = _
          rw [fzW]
          simp [fr, fi, mapO, W.pure, W.pures]
        rw [this]
        dsimp only
        rw [List.take_left]
      simp only [sSeq_t, then_nx, then_ret, then_bk, then_ct, then_exc, sAsg_e, sIf_e, sRet_e, sRetN_e, sExp_e, sNx_e, sBrk_e, sCnt_e, sRaise_e, sFor_e, onR_ok, onR_exc, onO_some, run_n, run_t, runs_nil, runs_cons, Option.bind_some, dV_0, dV_1, dV_2, dV_3, dV_4, dV_5, dV_6, dV_7, dV_8, dV_9, dV_10, dV_11, dV_12, dV_13, dV_14, dV_15, dV_16, dC_e, dBin_e, dUn_e, dAnd_e, dOr_e, dNot_e, tVal_e, tAnd_e, tOr_e, tNot_e, dIf_e, dCall_e, aNil_e, aCons_e, dTup_e, Res.bind_ok, Res.bind_exc, asB_b, oAdd_i, oSub_i, oLt_i, oLe_i, oGt_i, oGe_i, oNeg_i, oEq_d, oNe_d, oEq_s, oNe_s, oAddI_i, bLen_fl, bLen_tup, bMax2_i, bMin2_i, List.length_cons, List.length_nil, List.length_map, Nat.zero_add, Nat.reduceAdd, Nat.reduceLT, big_lit0, big_lit1, big_lit2, big_lit3, big_lit4, if_true, if_false, List.set_cons_zero, List.set_cons_succ, decide_true, decide_false, Bool.not_true, Bool.not_false, Bool.false_eq_true, Bool.true_eq_false, decide_eq_true_eq, endF_ret, endF_nx, endF_exc, pAt_int, pNo_e, dSl_e, newL_e, cast0, cast1, cast2, cast3, cast4, cast5, c0, a0, c1, a1, ad]
      exact gg
    · rw [if_neg (fun z => k (i0.mp z)), if_neg (fun z => k (i0.mp z))]
      have lz : dGz (dLst (aCons (dV 1) (aNil))) [some TW, some (.str p), some RA, some RC] h = .ok (.fl [.str p]) h := lst_gz rfl (by simp) rfl
      simp only [sSeq_t, then_nx, then_ret, then_bk, then_ct, then_exc, sAsg_e, sIf_e, sRet_e, sRetN_e, sExp_e, sNx_e, sBrk_e, sCnt_e, sRaise_e, sFor_e, onR_ok, onR_exc, onO_some, run_n, run_t, runs_nil, runs_cons, Option.bind_some, dV_0, dV_1, dV_2, dV_3, dV_4, dV_5, dV_6, dV_7, dV_8, dV_9, dV_10, dV_11, dV_12, dV_13, dV_14, dV_15, dV_16, dC_e, dBin_e, dUn_e, dAnd_e, dOr_e, dNot_e, tVal_e, tAnd_e, tOr_e, tNot_e, dIf_e, dCall_e, aNil_e, aCons_e, dTup_e, Res.bind_ok, Res.bind_exc, asB_b, oAdd_i, oSub_i, oLt_i, oLe_i, oGt_i, oGe_i, oNeg_i, oEq_d, oNe_d, oEq_s, oNe_s, oAddI_i, bLen_fl, bLen_tup, bMax2_i, bMin2_i, List.length_cons, List.length_nil, List.length_map, Nat.zero_add, Nat.reduceAdd, Nat.reduceLT, big_lit0, big_lit1, big_lit2, big_lit3, big_lit4, if_true, if_false, List.set_cons_zero, List.set_cons_succ, decide_true, decide_false, Bool.not_true, Bool.not_false, Bool.false_eq_true, Bool.true_eq_false, decide_eq_true_eq, endF_ret, endF_nx, endF_exc, pAt_int, pNo_e, dSl_e, newL_e, cast0, cast1, cast2, cast3, cast4, cast5, t1, a0, c0, decide_eq_true (show c ≤ a + b by omega), lz]
      exact gc_same _
theorem llinks_e (B : Int) (y : Rat) (L : List (List Nat)) : ∀ (t : Tr) (n : Nat) (p : List Nat) (h : Hs), t.high < n → p.length + t.high < 1000 → t.leaves ≤ 100 → (∀ q, p <+: q → (q ∈ L ↔ q ∈ (bst B y t p).2)) →
    f__law_links n [trW t, .fl (L.map W.str), .str p] h = .ok (.tup [.int (bsm B y t), .int (bn B y t), .fl ((ilk B y t p).map ilW)]) h := by
  have leaf : ∀ (t : Tr) (n : Nat) (p : List Nat) (h : Hs), p ∈ L → f__law_links (n + 1) [trW t, .fl (L.map W.str), .str p] h = .ok (.tup [.int (tcost t), .int 1, .fl []]) h := fun t n p h m => by
    rw [f__law_links_e]
    unfold b__law_links
    have t1 := fun h => tr1 t h
    have oi := oIn_strs (h := h) p L
    rw [decide_eq_true m] at oi
    generalize trW t = TW at *
    generalize L.map W.str = LW at *
    have lz : dGz (dLst aNil) [some TW, some (.fl LW), some (.str p), none, none, none, none] h = .ok (.fl []) h := lst_gz rfl (by simp) rfl
    simp only [sSeq_t, then_nx, then_ret, then_bk, then_ct, then_exc, sAsg_e, sIf_e, sRet_e, sRetN_e, sExp_e, sNx_e, sBrk_e, sCnt_e, sRaise_e, sFor_e, onR_ok, onR_exc, onO_some, run_n, run_t, runs_nil, runs_cons, Option.bind_some, dV_0, dV_1, dV_2, dV_3, dV_4, dV_5, dV_6, dV_7, dV_8, dV_9, dV_10, dV_11, dV_12, dV_13, dV_14, dV_15, dV_16, dC_e, dBin_e, dUn_e, dAnd_e, dOr_e, dNot_e, tVal_e, tAnd_e, tOr_e, tNot_e, dIf_e, dCall_e, aNil_e, aCons_e, dTup_e, Res.bind_ok, Res.bind_exc, asB_b, oAdd_i, oSub_i, oLt_i, oLe_i, oGt_i, oGe_i, oNeg_i, oEq_d, oNe_d, oEq_s, oNe_s, oAddI_i, bLen_fl, bLen_tup, bMax2_i, bMin2_i, List.length_cons, List.length_nil, List.length_map, Nat.zero_add, Nat.reduceAdd, Nat.reduceLT, big_lit0, big_lit1, big_lit2, big_lit3, big_lit4, if_true, if_false, List.set_cons_zero, List.set_cons_succ, decide_true, decide_false, Bool.not_true, Bool.not_false, Bool.false_eq_true, Bool.true_eq_false, decide_eq_true_eq, endF_ret, endF_nx, endF_exc, pAt_int, pNo_e, dSl_e, newL_e, cast0, cast1, cast2, cast3, cast4, cast5, oi, t1, lz]
    exact gc_same _
  intro t
  induction t with
  | en c =>
    intro n p h hn hp hl hL
    obtain ⟨m, rfl⟩ : ∃ m, n = m + 1 := ⟨n - 1, by omega⟩
    have m : p ∈ L := (hL p (List.prefix_refl _)).mpr (List.mem_singleton.mpr rfl)
    exact leaf (.en c) _ p h m
  | fk c t u iht ihu =>
    intro n p h hn hp hl hL
    obtain ⟨n, rfl⟩ : ∃ m, n = m + 1 := ⟨n - 1, by omega⟩
    by_cases k : ins B y c t u
    · have ey : (bst B y (.fk c t u) p).2 = (bst B y u (p ++ sN)).2 ++ (bst B y t (p ++ sY)).2 := by rw [bst_fk, if_pos k]
      rw [ey] at hL
      have bu : ∀ r, r ∈ (bst B y u (p ++ sN)).2 → (p ++ sN) <+: r := fun r hr => (bst_F B y u (p ++ sN)).pre.1 r hr
      have bt : ∀ r, r ∈ (bst B y t (p ++ sY)).2 → (p ++ sY) <+: r := fun r hr => (bst_F B y t (p ++ sY)).pre.1 r hr
      have nm : ¬ p ∈ L := fun m => by
        rcases List.mem_append.mp ((hL p (List.prefix_refl _)).mp m) with m | m
        · exact self_apart' (bu p m) (List.prefix_refl _)
        · exact self_apart' (bt p m) (List.prefix_refl _)
      have hh : (Tr.fk c t u).high = 1 + max t.high u.high := rfl
      have hv : (Tr.fk c t u).leaves = t.leaves + u.leaves := rfl
      rw [hh] at hn hp
      rw [hv] at hl
      have lt := t.leaves_pos
      have lu := u.leaves_pos
      have r1 := iht n (p ++ sY) h (by omega) (by simp; omega) (by omega) fun q hq => by
        rw [hL q ((List.prefix_append p sY).trans hq), List.mem_append]
        exact ⟨fun m => m.elim (fun m => (pre_ne hq (bu q m)).elim) id, .inr⟩
      have r2 := ihu n (p ++ sN) h (by omega) (by simp; omega) (by omega) fun q hq => by
        rw [hL q ((List.prefix_append p sN).trans hq), List.mem_append]
        exact ⟨fun m => m.elim id (fun m => (pre_ne (bt q m) hq).elim), .inl⟩
      have n1 := bn_pos B y t
      have n2 := bn_pos B y u
      have m1 := bn_le B y t
      have m2 := bn_le B y u
      have q1 := ilk_len B y t (p ++ sY)
      have q2 := ilk_len B y u (p ++ sN)
      have t1 := fun h => tr1 (.fk c t u) h
      have t1 : ∀ h, oIx (trW (.fk c t u)) (.int 1) h = .ok (.int c) h := t1
      have t2 : ∀ h, oIx (trW (.fk c t u)) (.int 2) h = .ok (trW t) h := fun h => oIx_tup (k := 2) rfl
      have t3 : ∀ h, oIx (trW (.fk c t u)) (.int 3) h = .ok (trW u) h := fun h => oIx_tup (k := 3) rfl
      have oi := oIn_strs (h := h) p L
      rw [decide_eq_false nm] at oi
      have pY : ∀ h, oAdd (.str p) (.str [121]) h = .ok (.str (p ++ sY)) h := fun h => oAdd_str (by unfold bigL; simp; omega)
      have pN : ∀ h, oAdd (.str p) (.str [110]) h = .ok (.str (p ++ sN)) h := fun h => oAdd_str (by unfold bigL; simp; omega)
      rw [f__law_links_e, bsm_fk, if_pos k, bn_fk, if_pos k, ilk, if_pos k]
      unfold b__law_links
      generalize trW (.fk c t u) = TW at *
      generalize trW t = TT at *
      generalize trW u = TU at *
      generalize L.map W.str = LW at *
      obtain ⟨A, hA⟩ : ∃ A, A = ilk B y t (p ++ sY) := ⟨_, rfl⟩
      obtain ⟨C, hC⟩ : ∃ C, C = ilk B y u (p ++ sN) := ⟨_, rfl⟩
      rw [← hA] at r1 q1 ⊢
      rw [← hC] at r2 q2 ⊢
      generalize bsm B y t = st at *
      generalize bsm B y u = su at *
      generalize bn B y t = nt at *
      generalize bn B y u = nu at *
      obtain ⟨RA, hRA⟩ : ∃ RA, RA = W.tup [.int st, .int nt, .fl (A.map ilW)] := ⟨_, rfl⟩
      obtain ⟨RC, hRC⟩ : ∃ RC, RC = W.tup [.int su, .int nu, .fl (C.map ilW)] := ⟨_, rfl⟩
      have a0 : ∀ h, oIx RA (.int 0) h = .ok (.int st) h := fun h => by rw [hRA]; exact oIx_t0
      have a1 : ∀ h, oIx RA (.int 1) h = .ok (.int nt) h := fun h => by rw [hRA]; exact oIx_t1
      have a2 : ∀ h, oIx RA (.int 2) h = .ok (.fl (A.map ilW)) h := fun h => by rw [hRA]; exact oIx_t2
      have c0 : ∀ h, oIx RC (.int 0) h = .ok (.int su) h := fun h => by rw [hRC]; exact oIx_t0
      have c1 : ∀ h, oIx RC (.int 1) h = .ok (.int nu) h := fun h => by rw [hRC]; exact oIx_t1
      have c2 : ∀ h, oIx RC (.int 2) h = .ok (.fl (C.map ilW)) h := fun h => by rw [hRC]; exact oIx_t2
      rw [← hRA] at r1
      rw [← hRC] at r2
      rw [seq_nx (ρ1 := [some TW, some (.fl LW), some (.str p), none, none, none, none]) (h1 := h) (by simp only [sSeq_t, then_nx, then_ret, then_bk, then_ct, then_exc, sAsg_e, sIf_e, sRet_e, sRetN_e, sExp_e, sNx_e, sBrk_e, sCnt_e, sRaise_e, sFor_e, onR_ok, onR_exc, onO_some, run_n, run_t, runs_nil, runs_cons, Option.bind_some, dV_0, dV_1, dV_2, dV_3, dV_4, dV_5, dV_6, dV_7, dV_8, dV_9, dV_10, dV_11, dV_12, dV_13, dV_14, dV_15, dV_16, dC_e, dBin_e, dUn_e, dAnd_e, dOr_e, dNot_e, tVal_e, tAnd_e, tOr_e, tNot_e, dIf_e, dCall_e, aNil_e, aCons_e, dTup_e, Res.bind_ok, Res.bind_exc, asB_b, oAdd_i, oSub_i, oLt_i, oLe_i, oGt_i, oGe_i, oNeg_i, oEq_d, oNe_d, oEq_s, oNe_s, oAddI_i, bLen_fl, bLen_tup, bMax2_i, bMin2_i, List.length_cons, List.length_nil, List.length_map, Nat.zero_add, Nat.reduceAdd, Nat.reduceLT, big_lit0, big_lit1, big_lit2, big_lit3, big_lit4, if_true, if_false, List.set_cons_zero, List.set_cons_succ, decide_true, decide_false, Bool.not_true, Bool.not_false, Bool.false_eq_true, Bool.true_eq_false, decide_eq_true_eq, endF_ret, endF_nx, endF_exc, pAt_int, pNo_e, dSl_e, newL_e, cast0, cast1, cast2, cast3, cast4, cast5, oi])]
      rw [seq_nx (ρ1 := [some TW, some (.fl LW), some (.str p), some RA, none, none, none]) (h1 := h) (by simp only [sSeq_t, then_nx, then_ret, then_bk, then_ct, then_exc, sAsg_e, sIf_e, sRet_e, sRetN_e, sExp_e, sNx_e, sBrk_e, sCnt_e, sRaise_e, sFor_e, onR_ok, onR_exc, onO_some, run_n, run_t, runs_nil, runs_cons, Option.bind_some, dV_0, dV_1, dV_2, dV_3, dV_4, dV_5, dV_6, dV_7, dV_8, dV_9, dV_10, dV_11, dV_12, dV_13, dV_14, dV_15, dV_16, dC_e, dBin_e, dUn_e, dAnd_e, dOr_e, dNot_e, tVal_e, tAnd_e, tOr_e, tNot_e, dIf_e, dCall_e, aNil_e, aCons_e, dTup_e, Res.bind_ok, Res.bind_exc, asB_b, oAdd_i, oSub_i, oLt_i, oLe_i, oGt_i, oGe_i, oNeg_i, oEq_d, oNe_d, oEq_s, oNe_s, oAddI_i, bLen_fl, bLen_tup, bMax2_i, bMin2_i, List.length_cons, List.length_nil, List.length_map, Nat.zero_add, Nat.reduceAdd, Nat.reduceLT, big_lit0, big_lit1, big_lit2, big_lit3, big_lit4, if_true, if_false, List.set_cons_zero, List.set_cons_succ, decide_true, decide_false, Bool.not_true, Bool.not_false, Bool.false_eq_true, Bool.true_eq_false, decide_eq_true_eq, endF_ret, endF_nx, endF_exc, pAt_int, pNo_e, dSl_e, newL_e, cast0, cast1, cast2, cast3, cast4, cast5, t2, pY, r1])]
      rw [seq_nx (ρ1 := [some TW, some (.fl LW), some (.str p), some RA, some RC, none, none]) (h1 := h) (by simp only [sSeq_t, then_nx, then_ret, then_bk, then_ct, then_exc, sAsg_e, sIf_e, sRet_e, sRetN_e, sExp_e, sNx_e, sBrk_e, sCnt_e, sRaise_e, sFor_e, onR_ok, onR_exc, onO_some, run_n, run_t, runs_nil, runs_cons, Option.bind_some, dV_0, dV_1, dV_2, dV_3, dV_4, dV_5, dV_6, dV_7, dV_8, dV_9, dV_10, dV_11, dV_12, dV_13, dV_14, dV_15, dV_16, dC_e, dBin_e, dUn_e, dAnd_e, dOr_e, dNot_e, tVal_e, tAnd_e, tOr_e, tNot_e, dIf_e, dCall_e, aNil_e, aCons_e, dTup_e, Res.bind_ok, Res.bind_exc, asB_b, oAdd_i, oSub_i, oLt_i, oLe_i, oGt_i, oGe_i, oNeg_i, oEq_d, oNe_d, oEq_s, oNe_s, oAddI_i, bLen_fl, bLen_tup, bMax2_i, bMin2_i, List.length_cons, List.length_nil, List.length_map, Nat.zero_add, Nat.reduceAdd, Nat.reduceLT, big_lit0, big_lit1, big_lit2, big_lit3, big_lit4, if_true, if_false, List.set_cons_zero, List.set_cons_succ, decide_true, decide_false, Bool.not_true, Bool.not_false, Bool.false_eq_true, Bool.true_eq_false, decide_eq_true_eq, endF_ret, endF_nx, endF_exc, pAt_int, pNo_e, dSl_e, newL_e, cast0, cast1, cast2, cast3, cast4, cast5, t3, pN, r2])]
      rw [seq_nx (ρ1 := [some TW, some (.fl LW), some (.str p), some RA, some RC, some (.int (st + su)), none]) (h1 := h) (by simp only [sSeq_t, then_nx, then_ret, then_bk, then_ct, then_exc, sAsg_e, sIf_e, sRet_e, sRetN_e, sExp_e, sNx_e, sBrk_e, sCnt_e, sRaise_e, sFor_e, onR_ok, onR_exc, onO_some, run_n, run_t, runs_nil, runs_cons, Option.bind_some, dV_0, dV_1, dV_2, dV_3, dV_4, dV_5, dV_6, dV_7, dV_8, dV_9, dV_10, dV_11, dV_12, dV_13, dV_14, dV_15, dV_16, dC_e, dBin_e, dUn_e, dAnd_e, dOr_e, dNot_e, tVal_e, tAnd_e, tOr_e, tNot_e, dIf_e, dCall_e, aNil_e, aCons_e, dTup_e, Res.bind_ok, Res.bind_exc, asB_b, oAdd_i, oSub_i, oLt_i, oLe_i, oGt_i, oGe_i, oNeg_i, oEq_d, oNe_d, oEq_s, oNe_s, oAddI_i, bLen_fl, bLen_tup, bMax2_i, bMin2_i, List.length_cons, List.length_nil, List.length_map, Nat.zero_add, Nat.reduceAdd, Nat.reduceLT, big_lit0, big_lit1, big_lit2, big_lit3, big_lit4, if_true, if_false, List.set_cons_zero, List.set_cons_succ, decide_true, decide_false, Bool.not_true, Bool.not_false, Bool.false_eq_true, Bool.true_eq_false, decide_eq_true_eq, endF_ret, endF_nx, endF_exc, pAt_int, pNo_e, dSl_e, newL_e, cast0, cast1, cast2, cast3, cast4, cast5, a0, c0])]
      rw [seq_nx (ρ1 := [some TW, some (.fl LW), some (.str p), some RA, some RC, some (.int (st + su)), some (.int ((nt : Int) + nu))]) (h1 := h) (by simp only [sSeq_t, then_nx, then_ret, then_bk, then_ct, then_exc, sAsg_e, sIf_e, sRet_e, sRetN_e, sExp_e, sNx_e, sBrk_e, sCnt_e, sRaise_e, sFor_e, onR_ok, onR_exc, onO_some, run_n, run_t, runs_nil, runs_cons, Option.bind_some, dV_0, dV_1, dV_2, dV_3, dV_4, dV_5, dV_6, dV_7, dV_8, dV_9, dV_10, dV_11, dV_12, dV_13, dV_14, dV_15, dV_16, dC_e, dBin_e, dUn_e, dAnd_e, dOr_e, dNot_e, tVal_e, tAnd_e, tOr_e, tNot_e, dIf_e, dCall_e, aNil_e, aCons_e, dTup_e, Res.bind_ok, Res.bind_exc, asB_b, oAdd_i, oSub_i, oLt_i, oLe_i, oGt_i, oGe_i, oNeg_i, oEq_d, oNe_d, oEq_s, oNe_s, oAddI_i, bLen_fl, bLen_tup, bMax2_i, bMin2_i, List.length_cons, List.length_nil, List.length_map, Nat.zero_add, Nat.reduceAdd, Nat.reduceLT, big_lit0, big_lit1, big_lit2, big_lit3, big_lit4, if_true, if_false, List.set_cons_zero, List.set_cons_succ, decide_true, decide_false, Bool.not_true, Bool.not_false, Bool.false_eq_true, Bool.true_eq_false, decide_eq_true_eq, endF_ret, endF_nx, endF_exc, pAt_int, pNo_e, dSl_e, newL_e, cast0, cast1, cast2, cast3, cast4, cast5, a1, c1])]
      have ip : ∀ x : List Nat × Int × Nat, (ilW x).pure = true := fun _ => rfl
      have z1 : dGz (dLst (aCons (dTup (aCons (dV 2) (aCons (dBin oSub (dBin oIx (dV 0) (dC (.int 1))) (dV 5)) (aCons (dBin oSub (dV 6) (dC (.int 1))) (aNil))))) (aNil))) [some TW, some (.fl LW), some (.str p), some RA, some RC, some (.int (st + su)), some (.int ((nt : Int) + nu))] h = .ok (.fl ([(p, c - (st + su), nt + nu - 1)].map ilW)) h := lst_gz (by
        simp only [sSeq_t, then_nx, then_ret, then_bk, then_ct, then_exc, sAsg_e, sIf_e, sRet_e, sRetN_e, sExp_e, sNx_e, sBrk_e, sCnt_e, sRaise_e, sFor_e, onR_ok, onR_exc, onO_some, run_n, run_t, runs_nil, runs_cons, Option.bind_some, dV_0, dV_1, dV_2, dV_3, dV_4, dV_5, dV_6, dV_7, dV_8, dV_9, dV_10, dV_11, dV_12, dV_13, dV_14, dV_15, dV_16, dC_e, dBin_e, dUn_e, dAnd_e, dOr_e, dNot_e, tVal_e, tAnd_e, tOr_e, tNot_e, dIf_e, dCall_e, aNil_e, aCons_e, dTup_e, Res.bind_ok, Res.bind_exc, asB_b, oAdd_i, oSub_i, oLt_i, oLe_i, oGt_i, oGe_i, oNeg_i, oEq_d, oNe_d, oEq_s, oNe_s, oAddI_i, bLen_fl, bLen_tup, bMax2_i, bMin2_i, List.length_cons, List.length_nil, List.length_map, Nat.zero_add, Nat.reduceAdd, Nat.reduceLT, big_lit0, big_lit1, big_lit2, big_lit3, big_lit4, if_true, if_false, List.set_cons_zero, List.set_cons_succ, decide_true, decide_false, Bool.not_true, Bool.not_false, Bool.false_eq_true, Bool.true_eq_false, decide_eq_true_eq, endF_ret, endF_nx, endF_exc, pAt_int, pNo_e, dSl_e, newL_e, cast0, cast1, cast2, cast3, cast4, cast5, t1]
        have : ((nt : Int) + nu - 1) = ((nt + nu - 1 : Nat) : Int) := by omega
        rw [this]
        rfl) (by simp) rfl
      have z2 : dGz (dBin oAdd (dGz (dLst (aCons (dTup (aCons (dV 2) (aCons (dBin oSub (dBin oIx (dV 0) (dC (.int 1))) (dV 5)) (aCons (dBin oSub (dV 6) (dC (.int 1))) (aNil))))) (aNil)))) (dBin oIx (dV 4) (dC (.int 2)))) [some TW, some (.fl LW), some (.str p), some RA, some RC, some (.int (st + su)), some (.int ((nt : Int) + nu))] h = .ok (.fl (((p, c - (st + su), nt + nu - 1) :: C).map ilW)) h := by
        rw [dGz_e, dBin_e, z1, Res.bind_ok, dBin_e, dV_4, Res.bind_ok, dC_e, Res.bind_ok, c2, Res.bind_ok, oAdd_flfl (by rw [List.length_map, List.length_map, List.length_singleton]; unfold bigL; omega), ← List.map_append]
        exact gc_newL (pures_map fun x _ => ip x)
      have z3 : dGz (dBin oAdd (dGz (dBin oAdd (dGz (dLst (aCons (dTup (aCons (dV 2) (aCons (dBin oSub (dBin oIx (dV 0) (dC (.int 1))) (dV 5)) (aCons (dBin oSub (dV 6) (dC (.int 1))) (aNil))))) (aNil)))) (dBin oIx (dV 4) (dC (.int 2))))) (dBin oIx (dV 3) (dC (.int 2)))) [some TW, some (.fl LW), some (.str p), some RA, some RC, some (.int (st + su)), some (.int ((nt : Int) + nu))] h = .ok (.fl (((p, c - (st + su), nt + nu - 1) :: (C ++ A)).map ilW)) h := by
        rw [dGz_e, dBin_e, z2, Res.bind_ok, dBin_e, dV_3, Res.bind_ok, dC_e, Res.bind_ok, a2, Res.bind_ok, oAdd_flfl (by rw [List.length_map, List.length_map, List.length_cons]; unfold bigL; omega), ← List.map_append]
        exact gc_newL (pures_map fun x _ => ip x)
      have fin : ∀ W1 : List W, W.pures W1 = true → gc h (.ok (.tup [.int (st + su), .int ((nt : Int) + nu), .fl W1]) h) = .ok (.tup [.int (st + su), .int ((nt + nu : Nat) : Int), .fl W1]) h := fun W1 hW => by
        rw [Int.natCast_add]
        have := gc_pure (h := h) (w := .tup [.int (st + su), .int ((nt : Int) + nu), .fl W1]) (e := []) (by simp [W.pure, W.pures, hW])
        rwa [List.append_nil] at this
      have pW : W.pures (((p, c - (st + su), nt + nu - 1) :: (C ++ A)).map ilW) = true := pures_map fun x _ => ip x
      generalize ((p, c - (st + su), nt + nu - 1) :: (C ++ A)).map ilW = RR at *
      simp only [sSeq_t, then_nx, then_ret, then_bk, then_ct, then_exc, sAsg_e, sIf_e, sRet_e, sRetN_e, sExp_e, sNx_e, sBrk_e, sCnt_e, sRaise_e, sFor_e, onR_ok, onR_exc, onO_some, run_n, run_t, runs_nil, runs_cons, Option.bind_some, dV_0, dV_1, dV_2, dV_3, dV_4, dV_5, dV_6, dV_7, dV_8, dV_9, dV_10, dV_11, dV_12, dV_13, dV_14, dV_15, dV_16, dC_e, dBin_e, dUn_e, dAnd_e, dOr_e, dNot_e, tVal_e, tAnd_e, tOr_e, tNot_e, dIf_e, dCall_e, aNil_e, aCons_e, dTup_e, Res.bind_ok, Res.bind_exc, asB_b, oAdd_i, oSub_i, oLt_i, oLe_i, oGt_i, oGe_i, oNeg_i, oEq_d, oNe_d, oEq_s, oNe_s, oAddI_i, bLen_fl, bLen_tup, bMax2_i, bMin2_i, List.length_cons, List.length_nil, List.length_map, Nat.zero_add, Nat.reduceAdd, Nat.reduceLT, big_lit0, big_lit1, big_lit2, big_lit3, big_lit4, if_true, if_false, List.set_cons_zero, List.set_cons_succ, decide_true, decide_false, Bool.not_true, Bool.not_false, Bool.false_eq_true, Bool.true_eq_false, decide_eq_true_eq, endF_ret, endF_nx, endF_exc, pAt_int, pNo_e, dSl_e, newL_e, cast0, cast1, cast2, cast3, cast4, cast5, z3]
      exact fin _ pW
    · have ey : (bst B y (.fk c t u) p).2 = [p] := by rw [bst_fk, if_neg k]
      have m : p ∈ L := (hL p (List.prefix_refl _)).mpr (by rw [ey]; exact List.mem_singleton.mpr rfl)
      rw [bsm_fk, if_neg k, bn_fk, if_neg k, ilk, if_neg k]
      exact leaf (.fk c t u) _ p h m
end Law
end PF
namespace PF
namespace Law
theorem st_le : ∀ (ss : List (List Nat)) (m : List Nat), shortT m ss ∈ m :: ss ∧ ∀ x, x ∈ m :: ss → (shortT m ss).length ≤ x.length
  | [], m => ⟨List.mem_singleton_self _, fun x hx => by rw [List.mem_singleton.mp hx]; exact Nat.le_refl _⟩
  | s :: ss, m => by
    unfold shortT
    by_cases k : s.length < m.length
    · rw [if_pos k]
      obtain ⟨a, b⟩ := st_le ss s
      refine ⟨List.mem_cons_of_mem _ a, fun x hx => ?_⟩
      rcases List.mem_cons.mp hx with z | z
      · have := b s (List.mem_cons_self ..); rw [z]; omega
      · exact b x z
    · rw [if_neg k]
      obtain ⟨a, b⟩ := st_le ss m
      refine ⟨?_, fun x hx => ?_⟩
      · rcases List.mem_cons.mp a with z | z
        · rw [z]; exact List.mem_cons_self ..
        · exact List.mem_cons_of_mem _ (List.mem_cons_of_mem _ z)
      · have b0 := b m (List.mem_cons_self ..)
        rcases List.mem_cons.mp hx with z | z
        · rw [z]; exact b0
        · rcases List.mem_cons.mp z with z | z
          · rw [z]; omega
          · exact b x (List.mem_cons_of_mem _ z)
def ahS (S : List (List Nat)) (q : List Nat) : List (List Nat) := S.filter fun s => decide (q.take s.length = s)
theorem short_sh (S : List (List Nat)) (q : List Nat) (m : List Nat) (ms : List (List Nat)) (e : ahS S q ++ [q] = m :: ms) : shortT m ms = sh S q := by
  obtain ⟨a, b⟩ := st_le ms m
  rw [← e] at a b
  obtain ⟨c1, c2, c3⟩ := sh_facts q S q
  have c1 : sh S q = q ∨ (sh S q ∈ S ∧ sh S q <+: q ∧ (sh S q).length < q.length) := c1
  have c2 : (sh S q).length ≤ q.length := c2
  have c3 : ∀ o, o ∈ S → o <+: q → o.length < q.length → (sh S q).length ≤ o.length := c3
  have memA : ∀ o, o ∈ S → o <+: q → o ∈ ahS S q ++ [q] := fun o ho hp => List.mem_append_left _ (List.mem_filter.mpr ⟨ho, decide_eq_true (List.prefix_iff_eq_take.mp hp).symm⟩)
  have vp : shortT m ms <+: q ∧ (shortT m ms = q ∨ shortT m ms ∈ S) := by
    rcases List.mem_append.mp a with z | z
    · obtain ⟨z1, z2⟩ := List.mem_filter.mp z
      exact ⟨List.prefix_iff_eq_take.mpr (of_decide_eq_true z2).symm, .inr z1⟩
    · rw [List.mem_singleton.mp z]; exact ⟨List.prefix_refl _, .inl rfl⟩
  have hp : sh S q <+: q := by
    rcases c1 with z | z
    · rw [z]; exact List.prefix_refl _
    · exact z.2.1
  have l1 : (shortT m ms).length ≤ (sh S q).length := by
    rcases c1 with z | z
    · rw [z]; exact b q (List.mem_append_right _ (List.mem_singleton_self _))
    · exact b _ (memA _ z.1 z.2.1)
  have l2 : (sh S q).length ≤ (shortT m ms).length := by
    rcases vp.2 with z | z
    · rw [z]; exact c2
    · by_cases k : (shortT m ms).length < q.length
      · exact c3 _ z vp.1 k
      · omega
  exact (List.prefix_of_prefix_length_le vp.1 hp l1).eq_of_length (by omega)
/-- the least so far: top, number of leaves less one -/
def leI (s : Int × Nat) (x : List Nat × Int × Nat) : Int × Nat := if x.2.1 * (s.2 : Int) < s.1 * (x.2.2 : Int) then (x.2.1, x.2.2) else s
theorem leI_q {B : Int} (hB : 0 < B) (s : Int × Nat) (hs : 1 ≤ s.2) (x : List Nat × Int × Nat) (hx : 1 ≤ x.2.2) : Rat.divInt (leI s x).1 (B * ((leI s x).2 : Int)) = leastF (Rat.divInt s.1 (B * (s.2 : Int))) (ilq B x) ∧ 1 ≤ (leI s x).2 := by
  have p1 : 0 < B * (s.2 : Int) := Int.mul_pos hB (by omega)
  have p2 : 0 < B * (x.2.2 : Int) := Int.mul_pos hB (by omega)
  have e : (ilq B x).2 < Rat.divInt s.1 (B * (s.2 : Int)) ↔ x.2.1 * (s.2 : Int) < s.1 * (x.2.2 : Int) := by
    show Rat.divInt x.2.1 (B * (x.2.2 : Int)) < _ ↔ _
    rw [divI_lt p2 p1, Int.mul_left_comm, Int.mul_left_comm s.1]
    exact ⟨fun h => Int.lt_of_mul_lt_mul_left h (Int.le_of_lt hB), fun h => Int.mul_lt_mul_of_pos_left h hB⟩
  unfold leI leastF
  by_cases k : x.2.1 * (s.2 : Int) < s.1 * (x.2.2 : Int)
  · rw [if_pos k, if_pos (e.mpr k)]
    exact ⟨rfl, hx⟩
  · rw [if_neg k, if_neg (fun z => k (e.mp z))]
    exact ⟨rfl, hs⟩
theorem leI_fold {B : Int} (hB : 0 < B) : ∀ (l : List (List Nat × Int × Nat)) (s : Int × Nat), 1 ≤ s.2 → (∀ x, x ∈ l → 1 ≤ x.2.2) → Rat.divInt (l.foldl leI s).1 (B * ((l.foldl leI s).2 : Int)) = (l.map (ilq B)).foldl leastF (Rat.divInt s.1 (B * (s.2 : Int))) ∧ 1 ≤ (l.foldl leI s).2
  | [], s, hs, _ => ⟨rfl, hs⟩
  | x :: l, s, hs, hx => by
    obtain ⟨e1, e2⟩ := leI_q hB s hs x (hx x (List.mem_cons_self ..))
    rw [List.foldl_cons, List.map_cons, List.foldl_cons, ← e1]
    exact leI_fold hB l (leI s x) e2 fun y hy => hx y (List.mem_cons_of_mem _ hy)
theorem divI_eq {x y c d : Int} (hc : 0 < c) (hd : 0 < d) : Rat.divInt x c = Rat.divInt y d ↔ x * d = y * c := by
  have a := divI_lt (x := x) (y := y) hc hd
  have b := divI_lt (x := y) (y := x) hd hc
  constructor
  · intro e
    rw [e] at a b
    have n1 : ¬ (Rat.divInt y d < Rat.divInt y d) := Rat.lt_irrefl
    have h1 : ¬ (x * d < y * c) := fun z => n1 (a.mpr z)
    have h2 : ¬ (y * c < x * d) := fun z => n1 (b.mpr z)
    omega
  · intro e
    refine Rat.le_antisymm (Rat.not_lt.mp fun z => ?_) (Rat.not_lt.mp fun z => ?_)
    · have := b.mp z; omega
    · have := a.mp z; omega
theorem mulB {i j : Int} {a b : Nat} (hi : i.natAbs < 2 ^ a) (hj : j.natAbs < 2 ^ b) (hs : a + b ≤ 9000) (h : Hs) : oMul (.int i) (.int j) h = .ok (.int (i * j)) h := oMul_i (mulOK_of hi hj (by omega))
theorem bst_short (B : Int) (y : Rat) : ∀ (t : Tr) (p q : List Nat), q ∈ (bst B y t p).2 → q.length ≤ p.length + t.high
  | .en c, p, q, h => by rw [List.mem_singleton.mp h]; omega
  | .fk c t u, p, q, h => by
    have hh : (Tr.fk c t u).high = 1 + max t.high u.high := rfl
    rw [bst_fk] at h
    rw [hh]
    split at h
    · rcases List.mem_append.mp h with h | h
      · have := bst_short B y u _ q h; simp at this; omega
      · have := bst_short B y t _ q h; simp at this; omega
    · rw [List.mem_singleton.mp h]; omega
theorem lnext_e (B : Int) (hB : 0 < B ∧ B < 2 ^ 100) (y : Rat) (t : Tr) (hh : t.high < 64) (hl : t.leaves ≤ 100) (tc : t.costs (2 ^ 105)) (nr : ¬ root B t y) (h : Hs) :
    ∃ (rest : Int) (many : Nat), (1 ≤ many ∧ many < 100) ∧ Rat.divInt rest (B * (many : Int)) = nxt B t y ∧ f__law_next [trW t, .fl ((bst B y t []).2.map W.str)] h = .ok (.tup [.int rest, .int (many : Int), .fl ((bst B (nxt B t y) t []).2.map W.str)]) h := by
  have hne := (root_or B t y).resolve_left nr
  have il := ilk_lnk hB.1 y t []
  have pos := ilk_pos B y t []
  have sz := fun x hx => ilk_sz B y t [] x hx hl tc (by simp; omega)
  have len := ilk_len B y t []
  have bl := bn_le B y t
  have lk := llinks_e B y (bst B y t []).2 t 64 [] h hh (by simp; omega) hl fun q _ => Iff.rfl
  obtain ⟨L, hL⟩ : ∃ L, L = (bst B y t []).2 := ⟨_, rfl⟩
  have lL : L.length ≤ 100 := by rw [hL]; exact Nat.le_trans (cut_small y t []) hl
  have fF := bst_F B y t []
  have ck := cut_yk hB.1 nr
  have cd := cut_due (S := metP B y (nxt B t y) t) fF ((lnk_nodup B y t []).sublist (List.filter_sublist.map Prod.fst)) (fun s hs => by
    obtain ⟨x, h1, _, h3⟩ := mem_met.mp hs
    exact List.mem_map.mpr ⟨x, h1, h3⟩)
  rw [ck] at cd
  have short : ∀ q, q ∈ L → q.length < 1000 := fun q hq => by
    rw [hL] at hq
    have := bst_short B y t [] q hq
    simp at this
    omega
  obtain ⟨IL, hIL⟩ : ∃ IL, IL = ilk B y t [] := ⟨_, rfl⟩
  rw [← hL] at lk cd ⊢
  rw [← hIL] at il pos sz len lk
  obtain ⟨x0, IL0, eIL⟩ : ∃ x0 IL0, IL = x0 :: IL0 := by
    cases IL with
    | nil => rw [List.map_nil] at il; exact absurd il.symm hne
    | cons a b => exact ⟨a, b, rfl⟩
  have pos0 := pos x0 (by rw [eIL]; exact List.mem_cons_self ..)
  have sz0 := sz x0 (by rw [eIL]; exact List.mem_cons_self ..)
  obtain ⟨fq, fp⟩ := leI_fold hB.1 IL (x0.2.1, x0.2.2) pos0 pos
  rw [il] at fq
  have en : (lnk B y t []).foldl leastF (Rat.divInt x0.2.1 (B * (x0.2.2 : Int))) = nxt B t y := by
    unfold nxt
    rw [← il, eIL, List.map_cons]
    rfl
  rw [en] at fq
  obtain ⟨S, hS⟩ : ∃ S, S = metP B y (nxt B t y) t := ⟨_, rfl⟩
  rw [f__law_next_e]
  unfold b__law_next
  have ix2 : ∀ a b c h, oIx (.tup [a, b, c]) (.int 2) h = .ok c h := fun a b c h => oIx_tup (k := 2) rfl
  obtain ⟨TW, hTW⟩ : ∃ TW, TW = trW t := ⟨_, rfl⟩
  obtain ⟨LW, hLW⟩ : ∃ LW, LW = L.map W.str := ⟨_, rfl⟩
  obtain ⟨IW, hIW⟩ : ∃ IW, IW = IL.map ilW := ⟨_, rfl⟩
  have lk : f__law_links 64 [trW t, .fl (L.map W.str), .str []] h = .ok (.tup [.int (bsm B y t), .int (bn B y t), .fl (IL.map ilW)]) h := lk
  rw [← hTW, ← hLW, ← hIW] at lk
  rw [← hTW, ← hLW]
  have i0 : ∀ h, oIx (.fl IW) (.int 0) h = .ok (ilW x0) h := fun h => by rw [hIW, eIL]; exact oIx_f0
  have j1 : ∀ x h, oIx (ilW x) (.int 1) h = .ok (.int x.2.1) h := fun x h => oIx_t1
  have j2 : ∀ x h, oIx (ilW x) (.int 2) h = .ok (.int (x.2.2 : Int)) h := fun x h => oIx_t2
  have j0 : ∀ x h, oIx (ilW x) (.int 0) h = .ok (.str x.1) h := fun x h => oIx_t0
  rw [seq_nx (ρ1 := [some TW, some (.fl LW), some (.fl IW), none, none, none, none, none, none, none, none]) (h1 := h) (by simp only [sSeq_t, then_nx, then_ret, then_bk, then_ct, then_exc, sAsg_e, sIf_e, sRet_e, sRetN_e, sExp_e, sNx_e, sBrk_e, sCnt_e, sRaise_e, sFor_e, onR_ok, onR_exc, onO_some, run_n, run_t, runs_nil, runs_cons, Option.bind_some, dV_0, dV_1, dV_2, dV_3, dV_4, dV_5, dV_6, dV_7, dV_8, dV_9, dV_10, dV_11, dV_12, dV_13, dV_14, dV_15, dV_16, dC_e, dBin_e, dUn_e, dAnd_e, dOr_e, dNot_e, tVal_e, tAnd_e, tOr_e, tNot_e, dIf_e, dCall_e, aNil_e, aCons_e, dTup_e, Res.bind_ok, Res.bind_exc, asB_b, oAdd_i, oSub_i, oLt_i, oLe_i, oGt_i, oGe_i, oNeg_i, oEq_d, oNe_d, oEq_s, oNe_s, oAddI_i, bLen_fl, bLen_tup, bMax2_i, bMin2_i, List.length_cons, List.length_nil, List.length_map, Nat.zero_add, Nat.reduceAdd, Nat.reduceLT, big_lit0, big_lit1, big_lit2, big_lit3, big_lit4, if_true, if_false, List.set_cons_zero, List.set_cons_succ, decide_true, decide_false, Bool.not_true, Bool.not_false, Bool.false_eq_true, Bool.true_eq_false, decide_eq_true_eq, endF_ret, endF_nx, endF_exc, pAt_int, pNo_e, dSl_e, newL_e, cast0, cast1, cast2, cast3, cast4, cast5, lk, ix2])]
  rw [seq_nx (ρ1 := [some TW, some (.fl LW), some (.fl IW), some (.int x0.2.1), none, none, none, none, none, none, none]) (h1 := h) (by simp only [sSeq_t, then_nx, then_ret, then_bk, then_ct, then_exc, sAsg_e, sIf_e, sRet_e, sRetN_e, sExp_e, sNx_e, sBrk_e, sCnt_e, sRaise_e, sFor_e, onR_ok, onR_exc, onO_some, run_n, run_t, runs_nil, runs_cons, Option.bind_some, dV_0, dV_1, dV_2, dV_3, dV_4, dV_5, dV_6, dV_7, dV_8, dV_9, dV_10, dV_11, dV_12, dV_13, dV_14, dV_15, dV_16, dC_e, dBin_e, dUn_e, dAnd_e, dOr_e, dNot_e, tVal_e, tAnd_e, tOr_e, tNot_e, dIf_e, dCall_e, aNil_e, aCons_e, dTup_e, Res.bind_ok, Res.bind_exc, asB_b, oAdd_i, oSub_i, oLt_i, oLe_i, oGt_i, oGe_i, oNeg_i, oEq_d, oNe_d, oEq_s, oNe_s, oAddI_i, bLen_fl, bLen_tup, bMax2_i, bMin2_i, List.length_cons, List.length_nil, List.length_map, Nat.zero_add, Nat.reduceAdd, Nat.reduceLT, big_lit0, big_lit1, big_lit2, big_lit3, big_lit4, if_true, if_false, List.set_cons_zero, List.set_cons_succ, decide_true, decide_false, Bool.not_true, Bool.not_false, Bool.false_eq_true, Bool.true_eq_false, decide_eq_true_eq, endF_ret, endF_nx, endF_exc, pAt_int, pNo_e, dSl_e, newL_e, cast0, cast1, cast2, cast3, cast4, cast5, i0, j1])]
  rw [seq_nx (ρ1 := [some TW, some (.fl LW), some (.fl IW), some (.int x0.2.1), some (.int (x0.2.2 : Int)), none, none, none, none, none, none]) (h1 := h) (by simp only [sSeq_t, then_nx, then_ret, then_bk, then_ct, then_exc, sAsg_e, sIf_e, sRet_e, sRetN_e, sExp_e, sNx_e, sBrk_e, sCnt_e, sRaise_e, sFor_e, onR_ok, onR_exc, onO_some, run_n, run_t, runs_nil, runs_cons, Option.bind_some, dV_0, dV_1, dV_2, dV_3, dV_4, dV_5, dV_6, dV_7, dV_8, dV_9, dV_10, dV_11, dV_12, dV_13, dV_14, dV_15, dV_16, dC_e, dBin_e, dUn_e, dAnd_e, dOr_e, dNot_e, tVal_e, tAnd_e, tOr_e, tNot_e, dIf_e, dCall_e, aNil_e, aCons_e, dTup_e, Res.bind_ok, Res.bind_exc, asB_b, oAdd_i, oSub_i, oLt_i, oLe_i, oGt_i, oGe_i, oNeg_i, oEq_d, oNe_d, oEq_s, oNe_s, oAddI_i, bLen_fl, bLen_tup, bMax2_i, bMin2_i, List.length_cons, List.length_nil, List.length_map, Nat.zero_add, Nat.reduceAdd, Nat.reduceLT, big_lit0, big_lit1, big_lit2, big_lit3, big_lit4, if_true, if_false, List.set_cons_zero, List.set_cons_succ, decide_true, decide_false, Bool.not_true, Bool.not_false, Bool.false_eq_true, Bool.true_eq_false, decide_eq_true_eq, endF_ret, endF_nx, endF_exc, pAt_int, pNo_e, dSl_e, newL_e, cast0, cast1, cast2, cast3, cast4, cast5, i0, j2])]
  obtain ⟨ρ', h', e, ⟨a5, eρ, eh, bd⟩⟩ := forL_st (enc := ilW) (g := [(.fl IW, IW)]) (tg := .n 5) (b := L1__law_next) (fun (s : Int × Nat) ρ h' => ∃ a5 : Option W, ρ = [some TW, some (.fl LW), some (.fl IW), some (.int s.1), some (.int (s.2 : Int)), a5, none, none, none, none, none] ∧ h' = h ∧ s.1.natAbs < 2 ^ 114 ∧ s.2 < 100) leI IL (x0.2.1, x0.2.2) [some TW, some (.fl LW), some (.fl IW), some (.int x0.2.1), some (.int (x0.2.2 : Int)), none, none, none, none, none, none] h ⟨none, rfl, rfl, sz0.1, sz0.2.1⟩ (fun _ _ _ _ => stays_fl) (by
    rintro s x ρ h' hx ⟨a5, rfl, eh, b1, b2⟩
    rw [eh]
    obtain ⟨z1, z2, _⟩ := sz x hx
    have m1 : ∀ h, oMul (.int x.2.1) (.int (s.2 : Int)) h = .ok (.int (x.2.1 * (s.2 : Int))) h := fun h => mulB (b := 8) z1 (by omega) (by omega) h
    have m2 : ∀ h, oMul (.int s.1) (.int (x.2.2 : Int)) h = .ok (.int (s.1 * (x.2.2 : Int))) h := fun h => mulB (b := 8) b1 (by omega) (by omega) h
    refine ⟨[some TW, some (.fl LW), some (.fl IW), some (.int s.1), some (.int (s.2 : Int)), some (ilW x), none, none, none, none, none], rfl, .inl ?_⟩
    unfold leI
    by_cases k : x.2.1 * (s.2 : Int) < s.1 * (x.2.2 : Int)
    · rw [if_pos k]
      refine ⟨[some TW, some (.fl LW), some (.fl IW), some (.int x.2.1), some (.int (x.2.2 : Int)), some (ilW x), none, none, none, none, none], h, ?_, _, rfl, rfl, z1, z2⟩
      unfold L1__law_next
      simp only [sSeq_t, then_nx, then_ret, then_bk, then_ct, then_exc, sAsg_e, sIf_e, sRet_e, sRetN_e, sExp_e, sNx_e, sBrk_e, sCnt_e, sRaise_e, sFor_e, onR_ok, onR_exc, onO_some, run_n, run_t, runs_nil, runs_cons, Option.bind_some, dV_0, dV_1, dV_2, dV_3, dV_4, dV_5, dV_6, dV_7, dV_8, dV_9, dV_10, dV_11, dV_12, dV_13, dV_14, dV_15, dV_16, dC_e, dBin_e, dUn_e, dAnd_e, dOr_e, dNot_e, tVal_e, tAnd_e, tOr_e, tNot_e, dIf_e, dCall_e, aNil_e, aCons_e, dTup_e, Res.bind_ok, Res.bind_exc, asB_b, oAdd_i, oSub_i, oLt_i, oLe_i, oGt_i, oGe_i, oNeg_i, oEq_d, oNe_d, oEq_s, oNe_s, oAddI_i, bLen_fl, bLen_tup, bMax2_i, bMin2_i, List.length_cons, List.length_nil, List.length_map, Nat.zero_add, Nat.reduceAdd, Nat.reduceLT, big_lit0, big_lit1, big_lit2, big_lit3, big_lit4, if_true, if_false, List.set_cons_zero, List.set_cons_succ, decide_true, decide_false, Bool.not_true, Bool.not_false, Bool.false_eq_true, Bool.true_eq_false, decide_eq_true_eq, endF_ret, endF_nx, endF_exc, pAt_int, pNo_e, dSl_e, newL_e, cast0, cast1, cast2, cast3, cast4, cast5, j1, j2, m1, m2, decide_eq_true k]
    · rw [if_neg k]
      refine ⟨[some TW, some (.fl LW), some (.fl IW), some (.int s.1), some (.int (s.2 : Int)), some (ilW x), none, none, none, none, none], h, ?_, _, rfl, rfl, b1, b2⟩
      unfold L1__law_next
      simp only [sSeq_t, then_nx, then_ret, then_bk, then_ct, then_exc, sAsg_e, sIf_e, sRet_e, sRetN_e, sExp_e, sNx_e, sBrk_e, sCnt_e, sRaise_e, sFor_e, onR_ok, onR_exc, onO_some, run_n, run_t, runs_nil, runs_cons, Option.bind_some, dV_0, dV_1, dV_2, dV_3, dV_4, dV_5, dV_6, dV_7, dV_8, dV_9, dV_10, dV_11, dV_12, dV_13, dV_14, dV_15, dV_16, dC_e, dBin_e, dUn_e, dAnd_e, dOr_e, dNot_e, tVal_e, tAnd_e, tOr_e, tNot_e, dIf_e, dCall_e, aNil_e, aCons_e, dTup_e, Res.bind_ok, Res.bind_exc, asB_b, oAdd_i, oSub_i, oLt_i, oLe_i, oGt_i, oGe_i, oNeg_i, oEq_d, oNe_d, oEq_s, oNe_s, oAddI_i, bLen_fl, bLen_tup, bMax2_i, bMin2_i, List.length_cons, List.length_nil, List.length_map, Nat.zero_add, Nat.reduceAdd, Nat.reduceLT, big_lit0, big_lit1, big_lit2, big_lit3, big_lit4, if_true, if_false, List.set_cons_zero, List.set_cons_succ, decide_true, decide_false, Bool.not_true, Bool.not_false, Bool.false_eq_true, Bool.true_eq_false, decide_eq_true_eq, endF_ret, endF_nx, endF_exc, pAt_int, pNo_e, dSl_e, newL_e, cast0, cast1, cast2, cast3, cast4, cast5, j1, j2, m1, m2, decide_eq_false k])
  rw [← hIW] at e
  obtain ⟨b1, b2⟩ := bd
  generalize hfin : IL.foldl leI (x0.2.1, x0.2.2) = fin at *
  obtain ⟨rest, many⟩ := fin
  dsimp only at fq fp eρ b1 b2
  rw [eρ, eh] at e
  refine ⟨rest, many, ⟨fp, b2⟩, fq, ?_⟩
  rw [seq_nx (ρ1 := [some TW, some (.fl LW), some (.fl IW), some (.int rest), some (.int (many : Int)), a5, none, none, none, none, none]) (h1 := h) (by
    have it : iAny (dV 2) [some TW, some (.fl LW), some (.fl IW), some (.int x0.2.1), some (.int (x0.2.2 : Int)), none, none, none, none, none, none] h = .ok (IW, [(.fl IW, IW)]) h := iAny_fl rfl
    rw [sFor_e, it, onR_ok]
    exact e)]
  have cS : dGz (dComp (iAny (dV 2)) (.n 5) (tVal (dBin oEq (dBin oMul (dBin oIx (dV 5) (dC (.int 1))) (dV 4)) (dBin oMul (dV 3) (dBin oIx (dV 5) (dC (.int 2)))))) (dBin oIx (dV 5) (dC (.int 0))) [5]) [some TW, some (.fl LW), some (.fl IW), some (.int rest), some (.int (many : Int)), a5, none, none, none, none, none] h = .ok (.fl (S.map W.str)) h := by
    rw [comp_gz (f := fun x : List Nat × Int × Nat => W.str x.1) ilW (fun x : List Nat × Int × Nat => decide (x.2.1 * (many : Int) = rest * (x.2.2 : Int))) IL (iAny_fl (ws := IL.map ilW) (by rw [dV_2, hIW])) (fun _ => stays_fl) (by unfold bigL; omega) (fun _ _ _ => rfl)]
    · congr 2
      rw [hS]
      unfold metP
      rw [← il, List.filter_map, List.map_map, List.map_map]
      have : IL.filter (fun x => decide (x.2.1 * (many : Int) = rest * (x.2.2 : Int))) = IL.filter ((fun x : List Nat × Rat => decide (x.2 = nxt B t y)) ∘ ilq B) := by
        refine List.filter_congr fun x hx => decide_eq_decide.mpr ?_
        show _ ↔ Rat.divInt x.2.1 (B * (x.2.2 : Int)) = nxt B t y
        have hp := pos x hx
        rw [← fq, divI_eq (Int.mul_pos hB.1 (by omega)) (Int.mul_pos hB.1 (by omega)), Int.mul_left_comm, Int.mul_left_comm rest]
        exact ⟨fun z => by rw [z], fun z => Int.eq_of_mul_eq_mul_left (by omega) z⟩
      rw [this]
      rfl
    · intro x hx
      obtain ⟨z1, z2, _⟩ := sz x hx
      have m1 : ∀ h, oMul (.int x.2.1) (.int (many : Int)) h = .ok (.int (x.2.1 * (many : Int))) h := fun h => mulB (b := 8) z1 (by omega) (by omega) h
      have m2 : ∀ h, oMul (.int rest) (.int (x.2.2 : Int)) h = .ok (.int (rest * (x.2.2 : Int))) h := fun h => mulB (b := 8) b1 (by omega) (by omega) h
      exact ⟨[some TW, some (.fl LW), some (.fl IW), some (.int rest), some (.int (many : Int)), some (ilW x), none, none, none, none, none], rfl, fun acc => ⟨by simp only [sSeq_t, then_nx, then_ret, then_bk, then_ct, then_exc, sAsg_e, sIf_e, sRet_e, sRetN_e, sExp_e, sNx_e, sBrk_e, sCnt_e, sRaise_e, sFor_e, onR_ok, onR_exc, onO_some, run_n, run_t, runs_nil, runs_cons, Option.bind_some, dV_0, dV_1, dV_2, dV_3, dV_4, dV_5, dV_6, dV_7, dV_8, dV_9, dV_10, dV_11, dV_12, dV_13, dV_14, dV_15, dV_16, dC_e, dBin_e, dUn_e, dAnd_e, dOr_e, dNot_e, tVal_e, tAnd_e, tOr_e, tNot_e, dIf_e, dCall_e, aNil_e, aCons_e, dTup_e, Res.bind_ok, Res.bind_exc, asB_b, oAdd_i, oSub_i, oLt_i, oLe_i, oGt_i, oGe_i, oNeg_i, oEq_d, oNe_d, oEq_s, oNe_s, oAddI_i, bLen_fl, bLen_tup, bMax2_i, bMin2_i, List.length_cons, List.length_nil, List.length_map, Nat.zero_add, Nat.reduceAdd, Nat.reduceLT, big_lit0, big_lit1, big_lit2, big_lit3, big_lit4, if_true, if_false, List.set_cons_zero, List.set_cons_succ, decide_true, decide_false, Bool.not_true, Bool.not_false, Bool.false_eq_true, Bool.true_eq_false, decide_eq_true_eq, endF_ret, endF_nx, endF_exc, pAt_int, pNo_e, dSl_e, newL_e, cast0, cast1, cast2, cast3, cast4, cast5, j1, j2, m1, m2], fun _ => by simp only [sSeq_t, then_nx, then_ret, then_bk, then_ct, then_exc, sAsg_e, sIf_e, sRet_e, sRetN_e, sExp_e, sNx_e, sBrk_e, sCnt_e, sRaise_e, sFor_e, onR_ok, onR_exc, onO_some, run_n, run_t, runs_nil, runs_cons, Option.bind_some, dV_0, dV_1, dV_2, dV_3, dV_4, dV_5, dV_6, dV_7, dV_8, dV_9, dV_10, dV_11, dV_12, dV_13, dV_14, dV_15, dV_16, dC_e, dBin_e, dUn_e, dAnd_e, dOr_e, dNot_e, tVal_e, tAnd_e, tOr_e, tNot_e, dIf_e, dCall_e, aNil_e, aCons_e, dTup_e, Res.bind_ok, Res.bind_exc, asB_b, oAdd_i, oSub_i, oLt_i, oLe_i, oGt_i, oGe_i, oNeg_i, oEq_d, oNe_d, oEq_s, oNe_s, oAddI_i, bLen_fl, bLen_tup, bMax2_i, bMin2_i, List.length_cons, List.length_nil, List.length_map, Nat.zero_add, Nat.reduceAdd, Nat.reduceLT, big_lit0, big_lit1, big_lit2, big_lit3, big_lit4, if_true, if_false, List.set_cons_zero, List.set_cons_succ, decide_true, decide_false, Bool.not_true, Bool.not_false, Bool.false_eq_true, Bool.true_eq_false, decide_eq_true_eq, endF_ret, endF_nx, endF_exc, pAt_int, pNo_e, dSl_e, newL_e, cast0, cast1, cast2, cast3, cast4, cast5, j0]⟩⟩
  have lS : S.length ≤ 100 := by
    rw [hS]
    unfold metP
    rw [List.length_map]
    have := List.length_filter_le (fun x : List Nat × Rat => decide (x.2 = nxt B t y)) (lnk B y t [])
    have := lnk_len B y t []
    omega
  have sS : ∀ s, s ∈ S → s.length < 1000 := fun s hs => by
    rw [hS] at hs
    obtain ⟨x, h1, _, h3⟩ := mem_met.mp hs
    rw [← il] at h1
    obtain ⟨z, hz, rfl⟩ := List.mem_map.mp h1
    rw [← h3]
    exact (sz z hz).2.2
  obtain ⟨SW, hSW⟩ : ∃ SW, SW = S.map W.str := ⟨_, rfl⟩
  rw [← hSW] at cS
  rw [seq_nx (ρ1 := [some TW, some (.fl LW), some (.fl IW), some (.int rest), some (.int (many : Int)), a5, some (.fl SW), none, none, none, none]) (h1 := h) (by rw [sAsg_e, cS]; rfl)]
  rw [seq_nx (ρ1 := [some TW, some (.fl LW), some (.fl IW), some (.int rest), some (.int (many : Int)), a5, some (.fl SW), some (.ref h.length), none, none, none]) (h1 := h ++ [.lst (([] : List (List Nat)).map W.str)]) (by simp only [sSeq_t, then_nx, then_ret, then_bk, then_ct, then_exc, sAsg_e, sIf_e, sRet_e, sRetN_e, sExp_e, sNx_e, sBrk_e, sCnt_e, sRaise_e, sFor_e, onR_ok, onR_exc, onO_some, run_n, run_t, runs_nil, runs_cons, Option.bind_some, dV_0, dV_1, dV_2, dV_3, dV_4, dV_5, dV_6, dV_7, dV_8, dV_9, dV_10, dV_11, dV_12, dV_13, dV_14, dV_15, dV_16, dC_e, dBin_e, dUn_e, dAnd_e, dOr_e, dNot_e, tVal_e, tAnd_e, tOr_e, tNot_e, dIf_e, dCall_e, aNil_e, aCons_e, dTup_e, Res.bind_ok, Res.bind_exc, asB_b, oAdd_i, oSub_i, oLt_i, oLe_i, oGt_i, oGe_i, oNeg_i, oEq_d, oNe_d, oEq_s, oNe_s, oAddI_i, bLen_fl, bLen_tup, bMax2_i, bMin2_i, List.length_cons, List.length_nil, List.length_map, Nat.zero_add, Nat.reduceAdd, Nat.reduceLT, big_lit0, big_lit1, big_lit2, big_lit3, big_lit4, if_true, if_false, List.set_cons_zero, List.set_cons_succ, decide_true, decide_false, Bool.not_true, Bool.not_false, Bool.false_eq_true, Bool.true_eq_false, decide_eq_true_eq, endF_ret, endF_nx, endF_exc, pAt_int, pNo_e, dSl_e, newL_e, cast0, cast1, cast2, cast3, cast4, cast5, dLst_e]; rfl)]
  obtain ⟨ρ2, h2, e2, made, a8, a9, em, lm, eh2, eρ2⟩ := forL_all (g := [(.fl LW, LW)]) (tg := .n 8) (b := L2__law_next) (fun i ρ h' => ∃ (made : List (List Nat)) (a8 a9 : Option W), made = (L.take i).foldl (fun made q => addS made (sh S q)) [] ∧ made.length ≤ i ∧ h' = h ++ [.lst (made.map W.str)] ∧ ρ = [some TW, some (.fl LW), some (.fl IW), some (.int rest), some (.int (many : Int)), a5, some (.fl SW), some (.ref h.length), a8, a9, none]) LW [some TW, some (.fl LW), some (.fl IW), some (.int rest), some (.int (many : Int)), a5, some (.fl SW), some (.ref h.length), none, none, none] (h ++ [.lst (([] : List (List Nat)).map W.str)]) ⟨[], none, none, rfl, Nat.le_refl _, rfl, rfl⟩ (fun _ _ _ _ => stays_fl) (by
    rintro i w ρ h' hw ⟨made, a8, a9, em, lm, eh, rfl⟩
    rw [hLW, List.getElem?_map] at hw
    obtain ⟨q, hqi, rfl⟩ := Option.map_eq_some_iff.mp hw
    have hi : i < L.length := (List.getElem?_eq_some_iff.mp hqi).1
    have hq : q ∈ L := List.mem_of_getElem? hqi
    have et : (L.take (i + 1)).foldl (fun made q => addS made (sh S q)) [] = addS made (sh S q) := by
      rw [List.take_add_one, hqi, List.foldl_append, ← em]; rfl
    have sq := short q hq
    have bq : q.length ≤ bigL := by unfold bigL; omega
    refine ⟨[some TW, some (.fl LW), some (.fl IW), some (.int rest), some (.int (many : Int)), a5, some (.fl SW), some (.ref h.length), some (.str q), a9, none], rfl, .inl ?_⟩
    have cA : ∀ g, dGz (dComp (iAny (dV 6)) (.n 10) (tVal (dBin oEq (dGz (dSl (dV 8) (pNo) (pAt (dCall bLen (aCons (dV 10) (aNil)))))) (dV 10))) (dV 10) [10]) [some TW, some (.fl LW), some (.fl IW), some (.int rest), some (.int (many : Int)), a5, some (.fl SW), some (.ref h.length), some (.str q), a9, none] g = .ok (.fl ((ahS S q).map W.str)) g := fun g => by
      unfold ahS
      refine comp_gz (f := W.str) W.str (fun s => decide (q.take s.length = s)) S (iAny_fl (ws := S.map W.str) (by rw [dV_6, hSW])) (fun _ => stays_fl) (by unfold bigL; omega) (fun _ _ _ => rfl) fun s hs => ⟨[some TW, some (.fl LW), some (.fl IW), some (.int rest), some (.int (many : Int)), a5, some (.fl SW), some (.ref h.length), some (.str q), a9, some (.str s)], rfl, fun acc => ?_⟩
      have bs : s.length ≤ bigL := by have := sS s hs; unfold bigL; omega
      have lb : ∀ g, bLen [.str s] g = .ok (.int (s.length : Int)) g := fun g => by simp [bLen, bs]
      have sl : ∀ g, dGz (dSl (dV 8) (pNo) (pAt (dCall bLen (aCons (dV 10) (aNil))))) [some TW, some (.fl LW), some (.fl IW), some (.int rest), some (.int (many : Int)), a5, some (.fl SW), some (.ref h.length), some (.str q), a9, some (.str s)] g = .ok (.str (q.take s.length)) g := fun g => by
        rw [dGz_e, dSl_e, dV_8, Res.bind_ok, pNo_e, Res.bind_ok, pAt_of (i := (s.length : Int)) (by simp only [sSeq_t, then_nx, then_ret, then_bk, then_ct, then_exc, sAsg_e, sIf_e, sRet_e, sRetN_e, sExp_e, sNx_e, sBrk_e, sCnt_e, sRaise_e, sFor_e, onR_ok, onR_exc, onO_some, run_n, run_t, runs_nil, runs_cons, Option.bind_some, dV_0, dV_1, dV_2, dV_3, dV_4, dV_5, dV_6, dV_7, dV_8, dV_9, dV_10, dV_11, dV_12, dV_13, dV_14, dV_15, dV_16, dC_e, dBin_e, dUn_e, dAnd_e, dOr_e, dNot_e, tVal_e, tAnd_e, tOr_e, tNot_e, dIf_e, dCall_e, aNil_e, aCons_e, dTup_e, Res.bind_ok, Res.bind_exc, asB_b, oAdd_i, oSub_i, oLt_i, oLe_i, oGt_i, oGe_i, oNeg_i, oEq_d, oNe_d, oEq_s, oNe_s, oAddI_i, bLen_fl, bLen_tup, bMax2_i, bMin2_i, List.length_cons, List.length_nil, List.length_map, Nat.zero_add, Nat.reduceAdd, Nat.reduceLT, big_lit0, big_lit1, big_lit2, big_lit3, big_lit4, if_true, if_false, List.set_cons_zero, List.set_cons_succ, decide_true, decide_false, Bool.not_true, Bool.not_false, Bool.false_eq_true, Bool.true_eq_false, decide_eq_true_eq, endF_ret, endF_nx, endF_exc, pAt_int, pNo_e, dSl_e, newL_e, cast0, cast1, cast2, cast3, cast4, cast5, lb]), Res.bind_ok, oSl_str bq, cut_hi]
        exact gc_same _
      exact ⟨by simp only [sSeq_t, then_nx, then_ret, then_bk, then_ct, then_exc, sAsg_e, sIf_e, sRet_e, sRetN_e, sExp_e, sNx_e, sBrk_e, sCnt_e, sRaise_e, sFor_e, onR_ok, onR_exc, onO_some, run_n, run_t, runs_nil, runs_cons, Option.bind_some, dV_0, dV_1, dV_2, dV_3, dV_4, dV_5, dV_6, dV_7, dV_8, dV_9, dV_10, dV_11, dV_12, dV_13, dV_14, dV_15, dV_16, dC_e, dBin_e, dUn_e, dAnd_e, dOr_e, dNot_e, tVal_e, tAnd_e, tOr_e, tNot_e, dIf_e, dCall_e, aNil_e, aCons_e, dTup_e, Res.bind_ok, Res.bind_exc, asB_b, oAdd_i, oSub_i, oLt_i, oLe_i, oGt_i, oGe_i, oNeg_i, oEq_d, oNe_d, oEq_s, oNe_s, oAddI_i, bLen_fl, bLen_tup, bMax2_i, bMin2_i, List.length_cons, List.length_nil, List.length_map, Nat.zero_add, Nat.reduceAdd, Nat.reduceLT, big_lit0, big_lit1, big_lit2, big_lit3, big_lit4, if_true, if_false, List.set_cons_zero, List.set_cons_succ, decide_true, decide_false, Bool.not_true, Bool.not_false, Bool.false_eq_true, Bool.true_eq_false, decide_eq_true_eq, endF_ret, endF_nx, endF_exc, pAt_int, pNo_e, dSl_e, newL_e, cast0, cast1, cast2, cast3, cast4, cast5, sl], fun _ => by simp only [sSeq_t, then_nx, then_ret, then_bk, then_ct, then_exc, sAsg_e, sIf_e, sRet_e, sRetN_e, sExp_e, sNx_e, sBrk_e, sCnt_e, sRaise_e, sFor_e, onR_ok, onR_exc, onO_some, run_n, run_t, runs_nil, runs_cons, Option.bind_some, dV_0, dV_1, dV_2, dV_3, dV_4, dV_5, dV_6, dV_7, dV_8, dV_9, dV_10, dV_11, dV_12, dV_13, dV_14, dV_15, dV_16, dC_e, dBin_e, dUn_e, dAnd_e, dOr_e, dNot_e, tVal_e, tAnd_e, tOr_e, tNot_e, dIf_e, dCall_e, aNil_e, aCons_e, dTup_e, Res.bind_ok, Res.bind_exc, asB_b, oAdd_i, oSub_i, oLt_i, oLe_i, oGt_i, oGe_i, oNeg_i, oEq_d, oNe_d, oEq_s, oNe_s, oAddI_i, bLen_fl, bLen_tup, bMax2_i, bMin2_i, List.length_cons, List.length_nil, List.length_map, Nat.zero_add, Nat.reduceAdd, Nat.reduceLT, big_lit0, big_lit1, big_lit2, big_lit3, big_lit4, if_true, if_false, List.set_cons_zero, List.set_cons_succ, decide_true, decide_false, Bool.not_true, Bool.not_false, Bool.false_eq_true, Bool.true_eq_false, decide_eq_true_eq, endF_ret, endF_nx, endF_exc, pAt_int, pNo_e, dSl_e, newL_e, cast0, cast1, cast2, cast3, cast4, cast5]⟩
    have lA : (ahS S q).length ≤ 100 := Nat.le_trans (List.length_filter_le _ _) lS
    have cB : ∀ g, dGz (dLst (aCons (dV 8) (aNil))) [some TW, some (.fl LW), some (.fl IW), some (.int rest), some (.int (many : Int)), a5, some (.fl SW), some (.ref h.length), some (.str q), a9, none] g = .ok (.fl [.str q]) g := fun g => lst_gz rfl (by simp) rfl
    have cC : ∀ g, dGz (dBin oAdd (dGz (dComp (iAny (dV 6)) (.n 10) (tVal (dBin oEq (dGz (dSl (dV 8) (pNo) (pAt (dCall bLen (aCons (dV 10) (aNil)))))) (dV 10))) (dV 10) [10])) (dGz (dLst (aCons (dV 8) (aNil))))) [some TW, some (.fl LW), some (.fl IW), some (.int rest), some (.int (many : Int)), a5, some (.fl SW), some (.ref h.length), some (.str q), a9, none] g = .ok (.fl ((ahS S q ++ [q]).map W.str)) g := fun g => by
      rw [dGz_e, dBin_e, cA, Res.bind_ok, cB, Res.bind_ok, oAdd_flfl (by rw [List.length_map, List.length_singleton]; unfold bigL; omega), List.map_append]
      exact gc_newL (by have := strs_pure (ahS S q ++ [q]); rwa [List.map_append] at this)
    obtain ⟨m, ms, ems⟩ : ∃ m ms, ahS S q ++ [q] = m :: ms := by
      cases e : ahS S q ++ [q] with
      | nil => simp at e
      | cons a b => exact ⟨a, b, rfl⟩
    have mn : ∀ g, bMinLen [.fl ((ahS S q ++ [q]).map W.str)] g = .ok (.str (sh S q)) g := fun g => by
      have al : (m :: ms).all (fun x => decide (x.length ≤ bigL)) = true := by
        rw [← ems, List.all_eq_true]
        intro x hx
        refine decide_eq_true ?_
        rcases List.mem_append.mp hx with z | z
        · have := sS x (List.mem_filter.mp z).1; unfold bigL; omega
        · rw [List.mem_singleton.mp z]; exact bq
      have sm := strsOf_map (ahS S q ++ [q])
      rw [← short_sh S q m ms ems]
      unfold bMinLen
      dsimp only
      rw [lstOf_fl, Option.bind_some, sm, ems]
      dsimp only
      rw [if_pos al]
    have gM : (h ++ [Cell.lst (made.map W.str)])[h.length]? = some (.lst (made.map W.str)) := by simp
    have ni := oNin_strsAt (h := h ++ [Cell.lst (made.map W.str)]) (sh S q) made gM
    have kd := kd_end h (made.map W.str)
    rw [eh]
    have ad : addS made (sh S q) = if sh S q ∈ made then made else made ++ [sh S q] := rfl
    unfold L2__law_next
    by_cases k : sh S q ∈ made
    · rw [decide_eq_true k] at ni
      rw [if_pos k] at ad
      refine ⟨[some TW, some (.fl LW), some (.fl IW), some (.int rest), some (.int (many : Int)), a5, some (.fl SW), some (.ref h.length), some (.str q), some (.str (sh S q)), none], _, ?_, made, _, _, by rw [et, ad], by omega, rfl, rfl⟩
      simp only [sSeq_t, then_nx, then_ret, then_bk, then_ct, then_exc, sAsg_e, sIf_e, sRet_e, sRetN_e, sExp_e, sNx_e, sBrk_e, sCnt_e, sRaise_e, sFor_e, onR_ok, onR_exc, onO_some, run_n, run_t, runs_nil, runs_cons, Option.bind_some, dV_0, dV_1, dV_2, dV_3, dV_4, dV_5, dV_6, dV_7, dV_8, dV_9, dV_10, dV_11, dV_12, dV_13, dV_14, dV_15, dV_16, dC_e, dBin_e, dUn_e, dAnd_e, dOr_e, dNot_e, tVal_e, tAnd_e, tOr_e, tNot_e, dIf_e, dCall_e, aNil_e, aCons_e, dTup_e, Res.bind_ok, Res.bind_exc, asB_b, oAdd_i, oSub_i, oLt_i, oLe_i, oGt_i, oGe_i, oNeg_i, oEq_d, oNe_d, oEq_s, oNe_s, oAddI_i, bLen_fl, bLen_tup, bMax2_i, bMin2_i, List.length_cons, List.length_nil, List.length_map, Nat.zero_add, Nat.reduceAdd, Nat.reduceLT, big_lit0, big_lit1, big_lit2, big_lit3, big_lit4, if_true, if_false, List.set_cons_zero, List.set_cons_succ, decide_true, decide_false, Bool.not_true, Bool.not_false, Bool.false_eq_true, Bool.true_eq_false, decide_eq_true_eq, endF_ret, endF_nx, endF_exc, pAt_int, pNo_e, dSl_e, newL_e, cast0, cast1, cast2, cast3, cast4, cast5, cC, mn, ni]
    · rw [decide_eq_false k] at ni
      rw [if_neg k] at ad
      refine ⟨[some TW, some (.fl LW), some (.fl IW), some (.int rest), some (.int (many : Int)), a5, some (.fl SW), some (.ref h.length), some (.str q), some (.str (sh S q)), none], h ++ [.lst ((made ++ [sh S q]).map W.str)], ?_, made ++ [sh S q], _, _, by rw [et, ad], by rw [List.length_append, List.length_singleton]; omega, rfl, rfl⟩
      have ap : mAppend (.ref h.length) [.str (sh S q)] (h ++ [.lst (made.map W.str)]) = .ok .non (h ++ [.lst ((made ++ [sh S q]).map W.str)]) := by
        rw [List.map_append]
        exact mApp_end (by rw [List.length_map]; unfold bigL; omega)
      simp only [sSeq_t, then_nx, then_ret, then_bk, then_ct, then_exc, sAsg_e, sIf_e, sRet_e, sRetN_e, sExp_e, sNx_e, sBrk_e, sCnt_e, sRaise_e, sFor_e, onR_ok, onR_exc, onO_some, run_n, run_t, runs_nil, runs_cons, Option.bind_some, dV_0, dV_1, dV_2, dV_3, dV_4, dV_5, dV_6, dV_7, dV_8, dV_9, dV_10, dV_11, dV_12, dV_13, dV_14, dV_15, dV_16, dC_e, dBin_e, dUn_e, dAnd_e, dOr_e, dNot_e, tVal_e, tAnd_e, tOr_e, tNot_e, dIf_e, dCall_e, aNil_e, aCons_e, dTup_e, Res.bind_ok, Res.bind_exc, asB_b, oAdd_i, oSub_i, oLt_i, oLe_i, oGt_i, oGe_i, oNeg_i, oEq_d, oNe_d, oEq_s, oNe_s, oAddI_i, bLen_fl, bLen_tup, bMax2_i, bMin2_i, List.length_cons, List.length_nil, List.length_map, Nat.zero_add, Nat.reduceAdd, Nat.reduceLT, big_lit0, big_lit1, big_lit2, big_lit3, big_lit4, if_true, if_false, List.set_cons_zero, List.set_cons_succ, decide_true, decide_false, Bool.not_true, Bool.not_false, Bool.false_eq_true, Bool.true_eq_false, decide_eq_true_eq, endF_ret, endF_nx, endF_exc, pAt_int, pNo_e, dSl_e, newL_e, cast0, cast1, cast2, cast3, cast4, cast5, cC, mn, ni, dMeth_e, kd, ap])
  have eLW : LW.length = L.length := by rw [hLW, List.length_map]
  rw [eLW, List.take_length] at em
  rw [eρ2, eh2] at e2
  rw [seq_nx (ρ1 := [some TW, some (.fl LW), some (.fl IW), some (.int rest), some (.int (many : Int)), a5, some (.fl SW), some (.ref h.length), a8, a9, none]) (h1 := h ++ [.lst (made.map W.str)]) (by
    have it : iAny (dV 1) [some TW, some (.fl LW), some (.fl IW), some (.int rest), some (.int (many : Int)), a5, some (.fl SW), some (.ref h.length), none, none, none] (h ++ [.lst (([] : List (List Nat)).map W.str)]) = .ok (LW, [(.fl LW, LW)]) (h ++ [.lst (([] : List (List Nat)).map W.str)]) := iAny_fl rfl
    rw [sFor_e, it, onR_ok]
    exact e2)]
  have gM : (h ++ [Cell.lst (made.map W.str)])[h.length]? = some (.lst (made.map W.str)) := by simp
  have eD : sortS made = (bst B (nxt B t y) t []).2 := by
    rw [cd]
    unfold dueP
    rw [em, hS]
  have so : dGz (dCall bSorted (aCons (dV 7) (aNil))) [some TW, some (.fl LW), some (.fl IW), some (.int rest), some (.int (many : Int)), a5, some (.fl SW), some (.ref h.length), a8, a9, none] (h ++ [.lst (made.map W.str)]) = .ok (.fl ((sortS made).map W.str)) (h ++ [.lst (made.map W.str)]) := by
    have e0 : bSorted [.ref h.length] (h ++ [.lst (made.map W.str)]) = newL ((sortS made).map W.str) (h ++ [.lst (made.map W.str)]) := by
      simp [bSorted, dctOf, lstOf, strsOf_map]
    rw [dGz_e, dCall_e, aCons_e, dV_7, Res.bind_ok, aNil_e, Res.bind_ok, Res.bind_ok, e0]
    exact gc_newL (strs_pure _)
  rw [eD] at so
  have pD := strs_pure (bst B (nxt B t y) t []).2
  generalize ((bst B (nxt B t y) t []).2).map W.str = DW at *
  simp only [sSeq_t, then_nx, then_ret, then_bk, then_ct, then_exc, sAsg_e, sIf_e, sRet_e, sRetN_e, sExp_e, sNx_e, sBrk_e, sCnt_e, sRaise_e, sFor_e, onR_ok, onR_exc, onO_some, run_n, run_t, runs_nil, runs_cons, Option.bind_some, dV_0, dV_1, dV_2, dV_3, dV_4, dV_5, dV_6, dV_7, dV_8, dV_9, dV_10, dV_11, dV_12, dV_13, dV_14, dV_15, dV_16, dC_e, dBin_e, dUn_e, dAnd_e, dOr_e, dNot_e, tVal_e, tAnd_e, tOr_e, tNot_e, dIf_e, dCall_e, aNil_e, aCons_e, dTup_e, Res.bind_ok, Res.bind_exc, asB_b, oAdd_i, oSub_i, oLt_i, oLe_i, oGt_i, oGe_i, oNeg_i, oEq_d, oNe_d, oEq_s, oNe_s, oAddI_i, bLen_fl, bLen_tup, bMax2_i, bMin2_i, List.length_cons, List.length_nil, List.length_map, Nat.zero_add, Nat.reduceAdd, Nat.reduceLT, big_lit0, big_lit1, big_lit2, big_lit3, big_lit4, if_true, if_false, List.set_cons_zero, List.set_cons_succ, decide_true, decide_false, Bool.not_true, Bool.not_false, Bool.false_eq_true, Bool.true_eq_false, decide_eq_true_eq, endF_ret, endF_nx, endF_exc, pAt_int, pNo_e, dSl_e, newL_e, cast0, cast1, cast2, cast3, cast4, cast5, so]
  exact gc_pure (by simp [W.pure, W.pures, pD])
end Law
end PF
namespace PF
namespace Law
theorem steps_snoc (B : Int) (t : Tr) (k : Nat) : stepsW B t (k + 1) = stepsW B t k ++ [stepW B t (yk B t (k + 1))] := by
  unfold stepsW
  rw [List.range_succ (n := k + 1), List.map_append]
  rfl
theorem steps_pure (B : Int) (t : Tr) (k : Nat) : W.pures (stepsW B t k) = true := pures_map fun _ _ => stepW_pure B t _
theorem law_true : LawTrue f_law := by
  intro ns hl
  rw [f_law_e]
  unfold b_law
  refine ⟨[], ?_⟩
  obtain ⟨hd, hhd⟩ : ∃ hd, hd = ns[0]?.getD 0 := ⟨_, rfl⟩
  rw [seq_nx (ρ1 := [some (.fl (ns.map W.int)), some (.int hd), none, none, none, none, none, none, none]) (h1 := []) (by
    simp only [sAsg_e, dCall_e, aCons_e, aNil_e, dV_0, dC_e, Res.bind_ok, cell_0, ← hhd]; rfl)]
  obtain ⟨way, hw, ew⟩ := pick_e hd 21 12 (by omega) (by omega)
  have ew : ∀ h, f__law_pick [.int hd, .int 21, .int 12] h = _ := ew
  obtain ⟨t0, l1, l2, tc0, et⟩ := tree_e (ns[2]?.getD 0 :: (ns.take 23).drop 3) (by simp) way []
  have tc0 : t0.costs (2 ^ 105) := t0.costs_le (by omega) tc0
  have z2 := cut_cells ns [some (.fl (ns.map W.int)), some (.int hd), none, none, none, none, none, none, none] (fun _ => rfl) []
  rw [seq_nx (ρ1 := [some (.fl (ns.map W.int)), some (.int hd), some (trW t0), none, none, none, none, none, none]) (h1 := []) (by
    rw [sAsg_e, dCall_e, aCons_e, z2, Res.bind_ok]
    simp only [aCons_e, aNil_e, dCall_e, dV_1, dC_e, Res.bind_ok, ew, et]; rfl)]
  obtain ⟨c2, hc2⟩ : ∃ c2, c2 = ns[2]?.getD 0 := ⟨_, rfl⟩
  obtain ⟨t1, g1, g2, g3, ed⟩ := dug_e c2 []
  have p18 : ∀ h, oPow (.int 10) (.int 18) h = .ok (.int (10 ^ 18)) h := fun h => oPow_i (by decide)
  obtain ⟨t, hl, hh, tc, eT⟩ : ∃ t : Tr, t.leaves ≤ 100 ∧ t.high < 50 ∧ t.costs (2 ^ 105) ∧ sIf (tVal (dBin oGe (dCall f__law_cell (aCons (dV 0) (aCons (dC (.int 2)) (aNil)))) (dBin oPow (dC (.int 10)) (dC (.int 18))))) (sAsg (dCall f__law_dug (aCons (dCall f__law_cell (aCons (dV 0) (aCons (dC (.int 2)) (aNil)))) (aNil))) (.n 2)) (sNx) [some (.fl (ns.map W.int)), some (.int hd), some (trW t0), none, none, none, none, none, none] [] = .nx [some (.fl (ns.map W.int)), some (.int hd), some (trW t), none, none, none, none, none, none] [] := by
    by_cases k : (10 : Int) ^ 18 ≤ c2
    · refine ⟨t1, by omega, by omega, t1.costs_le (by omega) g3, ?_⟩
      simp only [sIf_e, tVal_e, dBin_e, dCall_e, aCons_e, aNil_e, dV_0, dC_e, Res.bind_ok, cell_2, ← hc2, p18, oGe_i, decide_eq_true k, asB_b, onR_ok, if_true, sAsg_e, ed]
      rfl
    · refine ⟨t0, by omega, by omega, tc0, ?_⟩
      simp only [sIf_e, tVal_e, dBin_e, dCall_e, aCons_e, aNil_e, dV_0, dC_e, Res.bind_ok, cell_2, ← hc2, p18, oGe_i, decide_eq_false k, asB_b, onR_ok, Bool.false_eq_true, if_false, sNx_e]
  rw [seq_nx eT]
  obtain ⟨B, hB, eB⟩ := bottom_e (ns[1]?.getD 0) []
  rw [seq_nx (ρ1 := [some (.fl (ns.map W.int)), some (.int hd), some (trW t), some (.int B), none, none, none, none, none]) (h1 := []) (by
    simp only [sAsg_e, dCall_e, aCons_e, aNil_e, dV_0, dC_e, Res.bind_ok, cell_1, eB]; rfl)]
  have fi := first_e hB.1 t 64 [] [] (by omega) (by simp; omega) hl
  have fi : f__law_first 64 [trW t, .str []] [] = _ := fi
  have i1 : ∀ a b h, oIx (.tup [a, b]) (.int 1) h = .ok b h := fun a b h => oIx_t1
  obtain ⟨NS, hNS⟩ : ∃ NS, NS = W.fl (ns.map W.int) := ⟨_, rfl⟩
  obtain ⟨TW, hTW⟩ : ∃ TW, TW = trW t := ⟨_, rfl⟩
  rw [← hNS, ← hTW]
  rw [← hTW] at fi
  rw [seq_nx (ρ1 := [some NS, some (.int hd), some TW, some (.int B), some (.fl ((bst B (yk B t 0) t []).2.map W.str)), none, none, none, none]) (h1 := []) (by
    rw [sAsg_e, dBin_e, dCall_e, aCons_e, dV_2, Res.bind_ok, aCons_e, dC_e, Res.bind_ok, aNil_e, Res.bind_ok, Res.bind_ok, Res.bind_ok, fi, Res.bind_ok, dC_e, Res.bind_ok, i1]
    rfl)]
  rw [seq_nx (ρ1 := [some NS, some (.int hd), some TW, some (.int B), some (.fl ((bst B (yk B t 0) t []).2.map W.str)), some (.ref 0), none, none, none]) (h1 := [.lst (stepsW B t 0)]) (by
    simp only [sSeq_t, then_nx, then_ret, then_bk, then_ct, then_exc, sAsg_e, sIf_e, sRet_e, sRetN_e, sExp_e, sNx_e, sBrk_e, sCnt_e, sRaise_e, sFor_e, onR_ok, onR_exc, onO_some, run_n, run_t, runs_nil, runs_cons, Option.bind_some, dV_0, dV_1, dV_2, dV_3, dV_4, dV_5, dV_6, dV_7, dV_8, dV_9, dV_10, dV_11, dV_12, dV_13, dV_14, dV_15, dV_16, dC_e, dBin_e, dUn_e, dAnd_e, dOr_e, dNot_e, tVal_e, tAnd_e, tOr_e, tNot_e, dIf_e, dCall_e, aNil_e, aCons_e, dTup_e, Res.bind_ok, Res.bind_exc, asB_b, oAdd_i, oSub_i, oLt_i, oLe_i, oGt_i, oGe_i, oNeg_i, oEq_d, oNe_d, oEq_s, oNe_s, oAddI_i, bLen_fl, bLen_tup, bMax2_i, bMin2_i, List.length_cons, List.length_nil, List.length_map, Nat.zero_add, Nat.reduceAdd, Nat.reduceLT, big_lit0, big_lit1, big_lit2, big_lit3, big_lit4, if_true, if_false, List.set_cons_zero, List.set_cons_succ, decide_true, decide_false, Bool.not_true, Bool.not_false, Bool.false_eq_true, Bool.true_eq_false, decide_eq_true_eq, endF_ret, endF_nx, endF_exc, pAt_int, pNo_e, dSl_e, newL_e, cast0, cast1, cast2, cast3, cast4, cast5, dLst_e]; rfl)]
  have lo : ∀ c h, f__law_lowest [.int c, .int B] h = .ok (rat (Rat.divInt c B)) h := fun c h => lowest_q c B h hB.1 (Nat.lt_of_lt_of_le (by omega : B.natAbs < 2 ^ 100) (Nat.pow_le_pow_right (by omega) (by omega)))
  obtain ⟨k, ρ', h', ew2, ⟨e6, e7, eρ, eh, gk⟩, hc⟩ := while_ex (t := tVal (dBin oNe (dV 4) (dGz (dLst (aCons (dC (.str [])) (aNil)))))) (b := L1_law) (fun (k : Nat) ρ h' => ∃ e6 e7 : Option W, ρ = [some NS, some (.int hd), some TW, some (.int B), some (.fl ((bst B (yk B t k) t []).2.map W.str)), some (.ref 0), e6, e7, none] ∧ h' = [.lst (stepsW B t k)] ∧ Good B t k) (fun k => bn B (yk B t k) t) (fun k => !decide (root B t (yk B t k)))
    (by
      rintro k ρ h' ⟨e6, e7, rfl, eh, gk⟩
      have lz : dGz (dLst (aCons (dC (.str [])) (aNil))) [some NS, some (.int hd), some TW, some (.int B), some (.fl ((bst B (yk B t k) t []).2.map W.str)), some (.ref 0), e6, e7, none] h' = .ok (.fl (([[]] : List (List Nat)).map W.str)) h' := lst_gz rfl (by simp) rfl
      rw [tVal_e, dBin_e, dV_4, Res.bind_ok, lz, Res.bind_ok, oNe_strs, Res.bind_ok, asB_b])
    (by
      rintro k ρ h' ⟨e6, e7, rfl, eh, gk⟩ hc
      have nr : ¬ root B t (yk B t k) := fun z => by rw [decide_eq_true z] at hc; cases hc
      obtain ⟨n1, n2, n3⟩ := nxt_is hB.1 nr
      have fw := gk.few hB.1
      obtain ⟨rest, many, m1, m2, m3⟩ := lnext_e B hB (yk B t k) t (by omega) hl tc nr h'
      have m2 : Rat.divInt rest (B * (many : Int)) = yk B t (k + 1) := m2
      have m3 : f__law_next [trW t, .fl ((bst B (yk B t k) t []).2.map W.str)] h' = .ok (.tup [.int rest, .int (many : Int), .fl ((bst B (yk B t (k + 1)) t []).2.map W.str)]) h' := m3
      rw [← hTW] at m3
      have mb : ((many : Int) * B).natAbs < 2 ^ (8 + 100) := by
        rw [Int.natAbs_mul, Nat.pow_add]
        exact Nat.mul_lt_mul'' (by omega) (by omega)
      have ml : ∀ h, oMul (.int (many : Int)) (.int B) h = .ok (.int ((many : Int) * B)) h := fun h => mulB (a := 8) (b := 100) (by omega) (by omega) (by omega) h
      have lq := fun h => lowest_q rest ((many : Int) * B) h (Int.mul_pos (by omega) hB.1) (Nat.lt_of_lt_of_le mb (Nat.pow_le_pow_right (by omega) (by omega)))
      rw [Int.mul_comm (many : Int) B] at lq ml
      rw [m2] at lq
      have app : mAppend (.ref 0) [stepW B t (yk B t (k + 1))] [.lst (stepsW B t k)] = .ok .non [.lst (stepsW B t (k + 1))] := by
        rw [steps_snoc]
        exact mApp_at (i := 0) (h := [.lst (stepsW B t k)]) rfl (by unfold stepsW bigL; rw [List.length_map, List.length_range]; omega)
      have kd : ∀ L, kdOf (.ref 0) [.lst L] = some .lst := fun L => rfl
      rw [eh] at m3 ⊢
      refine ⟨k + 1, [some NS, some (.int hd), some TW, some (.int B), some (.fl ((bst B (yk B t (k + 1)) t []).2.map W.str)), some (.ref 0), some (.int rest), some (.int (many : Int)), none], [.lst (stepsW B t (k + 1))], .inl ?_, ⟨_, _, rfl, rfl, gk.step nr⟩, n3⟩
      have est : stepW B t (yk B t (k + 1)) = .tup [rat (yk B t (k + 1)), .fl ((bst B (yk B t (k + 1)) t []).2.map W.str)] := rfl
      rw [est] at app
      unfold L1_law
      generalize (bst B (yk B t k) t []).2.map W.str = L0 at *
      generalize (bst B (yk B t (k + 1)) t []).2.map W.str = L1 at *
      rw [seq_nx (ρ1 := [some NS, some (.int hd), some TW, some (.int B), some (.fl L1), some (.ref 0), some (.int rest), some (.int (many : Int)), none]) (h1 := [.lst (stepsW B t k)]) (by simp only [sSeq_t, then_nx, then_ret, then_bk, then_ct, then_exc, sAsg_e, sIf_e, sRet_e, sRetN_e, sExp_e, sNx_e, sBrk_e, sCnt_e, sRaise_e, sFor_e, onR_ok, onR_exc, onO_some, run_n, run_t, runs_nil, runs_cons, Option.bind_some, dV_0, dV_1, dV_2, dV_3, dV_4, dV_5, dV_6, dV_7, dV_8, dV_9, dV_10, dV_11, dV_12, dV_13, dV_14, dV_15, dV_16, dC_e, dBin_e, dUn_e, dAnd_e, dOr_e, dNot_e, tVal_e, tAnd_e, tOr_e, tNot_e, dIf_e, dCall_e, aNil_e, aCons_e, dTup_e, Res.bind_ok, Res.bind_exc, asB_b, oAdd_i, oSub_i, oLt_i, oLe_i, oGt_i, oGe_i, oNeg_i, oEq_d, oNe_d, oEq_s, oNe_s, oAddI_i, bLen_fl, bLen_tup, bMax2_i, bMin2_i, List.length_cons, List.length_nil, List.length_map, Nat.zero_add, Nat.reduceAdd, Nat.reduceLT, big_lit0, big_lit1, big_lit2, big_lit3, big_lit4, if_true, if_false, List.set_cons_zero, List.set_cons_succ, decide_true, decide_false, Bool.not_true, Bool.not_false, Bool.false_eq_true, Bool.true_eq_false, decide_eq_true_eq, endF_ret, endF_nx, endF_exc, pAt_int, pNo_e, dSl_e, newL_e, cast0, cast1, cast2, cast3, cast4, cast5, m3])]
      simp only [sSeq_t, then_nx, then_ret, then_bk, then_ct, then_exc, sAsg_e, sIf_e, sRet_e, sRetN_e, sExp_e, sNx_e, sBrk_e, sCnt_e, sRaise_e, sFor_e, onR_ok, onR_exc, onO_some, run_n, run_t, runs_nil, runs_cons, Option.bind_some, dV_0, dV_1, dV_2, dV_3, dV_4, dV_5, dV_6, dV_7, dV_8, dV_9, dV_10, dV_11, dV_12, dV_13, dV_14, dV_15, dV_16, dC_e, dBin_e, dUn_e, dAnd_e, dOr_e, dNot_e, tVal_e, tAnd_e, tOr_e, tNot_e, dIf_e, dCall_e, aNil_e, aCons_e, dTup_e, Res.bind_ok, Res.bind_exc, asB_b, oAdd_i, oSub_i, oLt_i, oLe_i, oGt_i, oGe_i, oNeg_i, oEq_d, oNe_d, oEq_s, oNe_s, oAddI_i, bLen_fl, bLen_tup, bMax2_i, bMin2_i, List.length_cons, List.length_nil, List.length_map, Nat.zero_add, Nat.reduceAdd, Nat.reduceLT, big_lit0, big_lit1, big_lit2, big_lit3, big_lit4, if_true, if_false, List.set_cons_zero, List.set_cons_succ, decide_true, decide_false, Bool.not_true, Bool.not_false, Bool.false_eq_true, Bool.true_eq_false, decide_eq_true_eq, endF_ret, endF_nx, endF_exc, pAt_int, pNo_e, dSl_e, newL_e, cast0, cast1, cast2, cast3, cast4, cast5, dMeth_e, kd, ml, lq, app])
    0 _ _ ⟨none, none, rfl, rfl, fun i hi => by omega⟩ (by
      have := bn_le B (yk B t 0) t
      exact Nat.lt_of_le_of_lt (Nat.le_trans this hl) (Nat.lt_of_lt_of_le (by decide : 100 < 2 ^ 9) (Nat.pow_le_pow_right (by omega) (by omega))))
  rw [eρ, eh] at ew2
  rw [seq_nx ew2]
  have r : root B t (yk B t k) := by
    by_cases z : root B t (yk B t k)
    · exact z
    · rw [decide_eq_false z] at hc; cases hc
  obtain ⟨H, hH⟩ : ∃ H : Hs, H = [.lst (stepsW B t k)] := ⟨_, rfl⟩
  have ha := handed_e (fun c => rat (Rat.divInt c B)) B lo (fun _ => rfl) t 64 H (by omega) (by omega)
  have pa := path_e B hB t (by omega) hl tc gk r H
  rw [← hTW] at ha
  rw [← hH]
  generalize (bst B (yk B t k) t []).2.map W.str = L0 at *
  rw [seq_nx (ρ1 := [some NS, some (.int hd), some TW, some (.int B), some (.fl L0), some (.ref 0), e6, e7, some (.fl (stepsW B t k))]) (h1 := H) (by
    simp only [sAsg_e, dCall_e, aCons_e, aNil_e, dV_2, dV_3, Res.bind_ok, ha, pa]; rfl)]
  have g0 : H[0]? = some (.lst (stepsW B t k)) := by rw [hH]; rfl
  have il : oIs .list (.fl (stepsW B t k)) H = .ok (.bl true) H := rfl
  have eq : oEq (.fl (stepsW B t k)) (.ref 0) H = .ok (.bl true) H := by
    unfold oEq
    rw [eqW_atR g0, eqW_pl (n := 3) (by decide) (steps_pl B t k) (steps_pl B t k)]
    simp
  simp only [sSeq_t, then_nx, then_ret, then_bk, then_ct, then_exc, sAsg_e, sIf_e, sRet_e, sRetN_e, sExp_e, sNx_e, sBrk_e, sCnt_e, sRaise_e, sFor_e, onR_ok, onR_exc, onO_some, run_n, run_t, runs_nil, runs_cons, Option.bind_some, dV_0, dV_1, dV_2, dV_3, dV_4, dV_5, dV_6, dV_7, dV_8, dV_9, dV_10, dV_11, dV_12, dV_13, dV_14, dV_15, dV_16, dC_e, dBin_e, dUn_e, dAnd_e, dOr_e, dNot_e, tVal_e, tAnd_e, tOr_e, tNot_e, dIf_e, dCall_e, aNil_e, aCons_e, dTup_e, Res.bind_ok, Res.bind_exc, asB_b, oAdd_i, oSub_i, oLt_i, oLe_i, oGt_i, oGe_i, oNeg_i, oEq_d, oNe_d, oEq_s, oNe_s, oAddI_i, bLen_fl, bLen_tup, bMax2_i, bMin2_i, List.length_cons, List.length_nil, List.length_map, Nat.zero_add, Nat.reduceAdd, Nat.reduceLT, big_lit0, big_lit1, big_lit2, big_lit3, big_lit4, if_true, if_false, List.set_cons_zero, List.set_cons_succ, decide_true, decide_false, Bool.not_true, Bool.not_false, Bool.false_eq_true, Bool.true_eq_false, decide_eq_true_eq, endF_ret, endF_nx, endF_exc, pAt_int, pNo_e, dSl_e, newL_e, cast0, cast1, cast2, cast3, cast4, cast5, il, eq]
  have := gc_pure (h := []) (w := .bl true) (e := H) rfl
  rwa [List.nil_append] at this
end Law
end PF
namespace PF
namespace Law
open PySem PySem.Spec PyProof.Rows L2
def topS (i : Nat) : Stmt := PySem.Challenge.pw_prunepath_k32_a_path_step_by_step.main.body.getD i (.Pass ⟨0, 0, 0, 0⟩)
abbrev s_shared_by : Stmt := topS 5
abbrev s_ratio : Stmt := topS 6
abbrev s_plus : Stmt := topS 7
abbrev s_under : Stmt := topS 10
abbrev s_best_under : Stmt := topS 13
abbrev s_cheapest : Stmt := topS 14
abbrev s_minus : Stmt := topS 8
abbrev s_over : Stmt := topS 9
abbrev s_linked_under : Stmt := topS 16
abbrev s_all_links : Stmt := topS 17
abbrev s_tops_of : Stmt := topS 12
abbrev s_cut : Stmt := topS 18
abbrev s_least_link : Stmt := topS 20
abbrev s_path : Stmt := topS 21
abbrev s__law_cell : Stmt := topS 23
abbrev s__law_pick : Stmt := topS 24
abbrev s__law_lowest : Stmt := topS 25
abbrev s__law_worth : Stmt := topS 26
abbrev s__law_joined : Stmt := topS 27
abbrev s__law_tree : Stmt := topS 28
abbrev s__law_digit : Stmt := topS 29
abbrev s__law_dug_from : Stmt := topS 30
abbrev s__law_dug : Stmt := topS 31
abbrev s__law_handed : Stmt := topS 32
abbrev s__law_bottom : Stmt := topS 33
abbrev s__law_first : Stmt := topS 35
abbrev s__law_links : Stmt := topS 34
abbrev s__law_next : Stmt := topS 36
abbrev s_law : Stmt := topS 37
def inClass (st : Stmt) : Stmt := match st with
  | .ClassDef _ _ _ body _ _ _ _ _ _ _ => body.getD 0 (.Pass ⟨0, 0, 0, 0⟩)
  | s => s
abbrev s_init_NoPrice : Stmt := inClass (topS 3)
theorem sc_init_NoPrice : FnScope ["self", "price"] ["self", "price"] (defScope s_init_NoPrice) := ⟨rfl, rfl, rfl, by decide +kernel, rfl, by decide +kernel, by decide +kernel⟩
structure Txt (K : PySem.W.Frag) (mg : PySem.Str → Option Value) (cls : Cl) : Prop where
  su : cls.su = none
  n_abs : mg "abs" = none
  n_divmod : mg "divmod" = none
  n_enumerate : mg "enumerate" = none
  n_isinstance : mg "isinstance" = none
  n_len : mg "len" = none
  n_list : mg "list" = none
  n_min : mg "min" = none
  n_sorted : mg "sorted" = none
  x_NoRatio : ExF K mg (cls 1) "NoRatio"
section
variable {P : Program} {w : World} {K : PySem.W.Frag} {mg : PySem.Str → Option Value} {base : Heap} {cls : Cl}
theorem sc_shared_by : FnScope ["one", "other", "times_over", "rest"] ["one", "other"] (defScope s_shared_by) := ⟨rfl, rfl, rfl, by decide +kernel, rfl, by decide +kernel, by decide +kernel⟩
theorem gl_L1_shared_by : GrowS L1_shared_by := gs_seq (gs_asg (grow_call gc_divmod (gr_cons (gr_v _) (gr_cons (gr_v _) (gr_nil))))) (gs_seq (gs_asg (gr_v _)) (gs_asg (gr_v _)))
theorem grow_shared_by : GrowS b_shared_by := gs_seq (gs_asg (grow_call gc_abs (gr_cons (gr_v _) (gr_nil)))) (gs_seq (gs_asg (grow_call gc_abs (gr_cons (gr_v _) (gr_nil)))) (gs_seq (gs_while (grow_val (grow_bin g_gt (gr_v _) (grow_c _))) (gl_L1_shared_by)) (gs_ret (gr_v _))))
theorem gf_shared_by : GrC f_shared_by := grow_def grow_shared_by
theorem ok_shared_by {f : Addr} {fd : FuncData} (T : Txt K mg cls) (R : RawFn K mg "shared_by" s_shared_by ["one", "other"] f fd)  : FnAt P w K mg base cls "shared_by" 1 f_shared_by := by
  refine FnAt.mkE (en := gc) R sc_shared_by (end_gc T.su) (by decide) gf_shared_by fun cdv A outer s H E hr tk hp => ?_
  have nd := (sc_shared_by).nd
  have hu := hr.units
  exact rss_cons (rs_set 0 nd rfl (by first | exact Or.inl rfl | exact Or.inr rfl) (re_biB c_abs gc_abs (by rfl) T.n_abs boot_abs (ra_cons (re_v 0) (ra_nil)))) (rss_cons (rs_set 1 nd rfl (by first | exact Or.inl rfl | exact Or.inr rfl) (re_biB c_abs gc_abs (by rfl) T.n_abs boot_abs (ra_cons (re_v 1) (ra_nil)))) (rss_cons (rs_while hp (rt_cmp o_gt g_gt (re_v 1) (re_int) (nomark _)) (rss_cons (rs_asg (re_biB c_divmod gc_divmod (by rfl) T.n_divmod boot_divmod (ra_cons (re_v 0) (ra_cons (re_v 1) (ra_nil)))) (rg_t rfl (rgs_cons (rg_n 2 nd rfl (by first | exact Or.inl rfl | exact Or.inr rfl)) (rgs_cons (rg_n 3 nd rfl (by first | exact Or.inl rfl | exact Or.inr rfl)) (rgs_nil))))) (rss_cons (rs_set 0 nd rfl (by first | exact Or.inl rfl | exact Or.inr rfl) (re_v 1)) (rss_one (rs_set 1 nd rfl (by first | exact Or.inl rfl | exact Or.inr rfl) (re_v 3)))))) (rss_one (rs_ret (re_v 0)))))
theorem sc_ratio : FnScope ["top", "bottom", "common"] ["top", "bottom"] (defScope s_ratio) := ⟨rfl, rfl, rfl, by decide +kernel, rfl, by decide +kernel, by decide +kernel⟩
theorem grow_ratio : GrowS b_ratio := gs_seq (gs_if (grow_val (grow_bin g_eq (gr_v _) (grow_c _))) (gs_raise _) (gs_nx)) (gs_seq (gs_asg (grow_call gf_shared_by (gr_cons (gr_v _) (gr_cons (gr_v _) (gr_nil))))) (gs_seq (gs_if (grow_val (grow_bin g_lt (gr_v _) (grow_c _))) (gs_asg (grow_un g_neg (gr_v _))) (gs_nx)) (gs_ret (gr_tup (gr_cons (grow_bin g_div (gr_v _) (gr_v _)) (gr_cons (grow_bin g_div (gr_v _) (gr_v _)) (gr_nil)))))))
theorem gf_ratio : GrC f_ratio := grow_def grow_ratio
theorem ok_ratio {f : Addr} {fd : FuncData} (T : Txt K mg cls) (R : RawFn K mg "ratio" s_ratio ["top", "bottom"] f fd) (A_shared_by : FnAt P w K mg base cls "shared_by" 1 (f_shared_by)) : FnAt P w K mg base cls "ratio" 2 f_ratio := by
  refine FnAt.mkE (en := gc) R sc_ratio (end_gc T.su) (by decide) gf_ratio fun cdv A outer s H E hr tk hp => ?_
  have nd := (sc_ratio).nd
  have hu := hr.units
  exact rss_cons (rs_if (rt_cmp (o_eq hu) g_eq (re_v 1) (re_int) (nomark _)) (rss_one (rs_raise 1 rfl tk T.x_NoRatio (by rfl))) (rss_nil)) (rss_cons (rs_set 2 nd rfl (by first | exact Or.inl rfl | exact Or.inr rfl) (re_fn A_shared_by tk (hr.mono (by decide)) (by rfl) (ra_cons (re_v 0) (ra_cons (re_v 1) (ra_nil))))) (rss_cons (rs_if (rt_cmp o_lt g_lt (re_v 1) (re_int) (nomark _)) (rss_one (rs_set 2 nd rfl (by first | exact Or.inl rfl | exact Or.inr rfl) (re_un o_neg g_neg (re_v 2)))) (rss_nil)) (rss_one (rs_ret (re_tup (ra_cons (re_bin o_div g_div (re_v 0) (re_v 2)) (ra_cons (re_bin o_div g_div (re_v 1) (re_v 2)) (ra_nil))))))))
theorem sc_plus : FnScope ["one", "other"] ["one", "other"] (defScope s_plus) := ⟨rfl, rfl, rfl, by decide +kernel, rfl, by decide +kernel, by decide +kernel⟩
theorem grow_plus : GrowS b_plus := gs_ret (grow_call gf_ratio (gr_cons (grow_bin g_add (grow_bin g_mul (grow_bin g_ix (gr_v _) (grow_c _)) (grow_bin g_ix (gr_v _) (grow_c _))) (grow_bin g_mul (grow_bin g_ix (gr_v _) (grow_c _)) (grow_bin g_ix (gr_v _) (grow_c _)))) (gr_cons (grow_bin g_mul (grow_bin g_ix (gr_v _) (grow_c _)) (grow_bin g_ix (gr_v _) (grow_c _))) (gr_nil))))
theorem gf_plus : GrC f_plus := grow_def grow_plus
theorem ok_plus {f : Addr} {fd : FuncData} (T : Txt K mg cls) (R : RawFn K mg "plus" s_plus ["one", "other"] f fd) (A_ratio : FnAt P w K mg base cls "ratio" 2 (f_ratio)) : FnAt P w K mg base cls "plus" 3 f_plus := by
  refine FnAt.mkE (en := gc) R sc_plus (end_gc T.su) (by decide) gf_plus fun cdv A outer s H E hr tk hp => ?_
  have nd := (sc_plus).nd
  have hu := hr.units
  exact rss_one (rs_ret (re_fn A_ratio tk (hr.mono (by decide)) (by rfl) (ra_cons (re_bin o_add g_add (re_bin o_mul g_mul (re_ix (re_v 0) (re_int)) (re_ix (re_v 1) (re_int))) (re_bin o_mul g_mul (re_ix (re_v 1) (re_int)) (re_ix (re_v 0) (re_int)))) (ra_cons (re_bin o_mul g_mul (re_ix (re_v 0) (re_int)) (re_ix (re_v 1) (re_int))) (ra_nil)))))
theorem sc_under : FnScope ["one", "other"] ["one", "other"] (defScope s_under) := ⟨rfl, rfl, rfl, by decide +kernel, rfl, by decide +kernel, by decide +kernel⟩
theorem grow_under : GrowS b_under := gs_ret (grow_bin g_lt (grow_bin g_mul (grow_bin g_ix (gr_v _) (grow_c _)) (grow_bin g_ix (gr_v _) (grow_c _))) (grow_bin g_mul (grow_bin g_ix (gr_v _) (grow_c _)) (grow_bin g_ix (gr_v _) (grow_c _))))
theorem gf_under : GrC f_under := grow_def grow_under
theorem ok_under {f : Addr} {fd : FuncData} (T : Txt K mg cls) (R : RawFn K mg "under" s_under ["one", "other"] f fd)  : FnAt P w K mg base cls "under" 1 f_under := by
  refine FnAt.mkE (en := gc) R sc_under (end_gc T.su) (by decide) gf_under fun cdv A outer s H E hr tk hp => ?_
  have nd := (sc_under).nd
  have hu := hr.units
  exact rss_one (rs_ret (re_cmp o_lt g_lt (re_bin o_mul g_mul (re_ix (re_v 0) (re_int)) (re_ix (re_v 1) (re_int))) (re_bin o_mul g_mul (re_ix (re_v 1) (re_int)) (re_ix (re_v 0) (re_int))) (nomark _)))
theorem sc_best_under : FnScope ["tree", "price", "place", "own", "yes_total", "yes_places", "no_total", "no_places", "both"] ["tree", "price", "place"] (defScope s_best_under) := ⟨rfl, rfl, rfl, by decide +kernel, rfl, by decide +kernel, by decide +kernel⟩
theorem grow_best_under {rec : Fn} (gr0 : GrC rec) : GrowS (b_best_under rec) := gs_seq (gs_asg (grow_call gf_plus (gr_cons (grow_bin g_ix (gr_v _) (grow_c _)) (gr_cons (gr_v _) (gr_nil))))) (gs_seq (gs_if (grow_val (grow_bin g_eq (grow_bin g_ix (gr_v _) (grow_c _)) (grow_c _))) (gs_ret (gr_tup (gr_cons (gr_v _) (gr_cons (gr_gz (gr_lst (gr_cons (gr_v _) (gr_nil)))) (gr_nil))))) (gs_nx)) (gs_seq (gs_asg (grow_call gr0 (gr_cons (grow_bin g_ix (gr_v _) (grow_c _)) (gr_cons (gr_v _) (gr_cons (grow_bin g_add (gr_v _) (grow_c _)) (gr_nil)))))) (gs_seq (gs_asg (grow_call gr0 (gr_cons (grow_bin g_ix (gr_v _) (grow_c _)) (gr_cons (gr_v _) (gr_cons (grow_bin g_add (gr_v _) (grow_c _)) (gr_nil)))))) (gs_seq (gs_asg (grow_call gf_plus (gr_cons (gr_v _) (gr_cons (gr_v _) (gr_nil))))) (gs_seq (gs_if (grow_val (grow_call gf_under (gr_cons (gr_v _) (gr_cons (gr_v _) (gr_nil))))) (gs_ret (gr_tup (gr_cons (gr_v _) (gr_cons (gr_gz (grow_bin g_add (gr_v _) (gr_v _))) (gr_nil))))) (gs_nx)) (gs_ret (gr_tup (gr_cons (gr_v _) (gr_cons (gr_gz (gr_lst (gr_cons (gr_v _) (gr_nil)))) (gr_nil))))))))))
theorem gf_best_under : ∀ m, GrC (f_best_under m)
  | 0 => fun _ _ => trivial
  | m + 1 => grow_def (grow_best_under (gf_best_under m))
theorem ok_best_under {f : Addr} {fd : FuncData} (T : Txt K mg cls) (R : RawFn K mg "best_under" s_best_under ["tree", "price", "place"] f fd) (A_plus : FnAt P w K mg base cls "plus" 3 (f_plus)) (A_under : FnAt P w K mg base cls "under" 1 (f_under)) : ∀ m, FnAt P w K mg base cls "best_under" (3 + m + 1) (f_best_under m)
  | 0 => fn_none R _
  | m + 1 => by
    have IH := ok_best_under T R A_plus A_under m
    refine FnAt.mkE (en := gc) R sc_best_under (end_gc T.su) (by decide) (gf_best_under (m + 1)) fun cdv A outer s H E hr tk hp => ?_
    have nd := (sc_best_under).nd
    have hu := hr.units
    exact rss_cons (rs_set 3 nd rfl (by first | exact Or.inl rfl | exact Or.inr rfl) (re_fn A_plus tk (hr.mono (by omega)) (by rfl) (ra_cons (re_ix (re_v 0) (re_int)) (ra_cons (re_v 1) (ra_nil))))) (rss_cons (rs_if (rt_cmp (o_eq hu) g_eq (re_ix (re_v 0) (re_int)) (re_str [101, 110, 100]) (nomark _)) (rss_one (rs_ret (re_tup (ra_cons (re_v 3) (ra_cons (re_gz T.su (re_lst (ra_cons (re_v 2) (ra_nil)))) (ra_nil)))))) (rss_nil)) (rss_cons (rs_asg (re_fn IH tk (hr.mono (by omega)) (by rfl) (ra_cons (re_ix (re_v 0) (re_int)) (ra_cons (re_v 1) (ra_cons (re_bin o_add g_add (re_v 2) (re_str [121])) (ra_nil))))) (rg_t rfl (rgs_cons (rg_n 4 nd rfl (by first | exact Or.inl rfl | exact Or.inr rfl)) (rgs_cons (rg_n 5 nd rfl (by first | exact Or.inl rfl | exact Or.inr rfl)) (rgs_nil))))) (rss_cons (rs_asg (re_fn IH tk (hr.mono (by omega)) (by rfl) (ra_cons (re_ix (re_v 0) (re_int)) (ra_cons (re_v 1) (ra_cons (re_bin o_add g_add (re_v 2) (re_str [110])) (ra_nil))))) (rg_t rfl (rgs_cons (rg_n 6 nd rfl (by first | exact Or.inl rfl | exact Or.inr rfl)) (rgs_cons (rg_n 7 nd rfl (by first | exact Or.inl rfl | exact Or.inr rfl)) (rgs_nil))))) (rss_cons (rs_set 8 nd rfl (by first | exact Or.inl rfl | exact Or.inr rfl) (re_fn A_plus tk (hr.mono (by omega)) (by rfl) (ra_cons (re_v 4) (ra_cons (re_v 6) (ra_nil))))) (rss_cons (rs_if (rt_val (re_fn A_under tk (hr.mono (by omega)) (by rfl) (ra_cons (re_v 8) (ra_cons (re_v 3) (ra_nil))))) (rss_one (rs_ret (re_tup (ra_cons (re_v 8) (ra_cons (re_gz T.su (re_bin o_add g_add (re_v 7) (re_v 5))) (ra_nil)))))) (rss_nil)) (rss_one (rs_ret (re_tup (ra_cons (re_v 3) (ra_cons (re_gz T.su (re_lst (ra_cons (re_v 2) (ra_nil)))) (ra_nil)))))))))))
theorem sc_cheapest : FnScope ["tree", "price"] ["tree", "price"] (defScope s_cheapest) := ⟨rfl, rfl, rfl, by decide +kernel, rfl, by decide +kernel, by decide +kernel⟩
theorem grow_cheapest : GrowS b_cheapest := gs_seq (gs_if (grow_val (grow_bin g_lt (grow_bin g_ix (gr_v _) (grow_c _)) (grow_c _))) (gs_raiseF _ _ (gr_v _)) (gs_nx)) (gs_ret (grow_bin g_ix (grow_call (gf_best_under _) (gr_cons (gr_v _) (gr_cons (gr_v _) (gr_cons (grow_c _) (gr_nil))))) (grow_c _)))
theorem gf_cheapest : GrC f_cheapest := grow_def grow_cheapest
theorem ok_cheapest {f : Addr} {fd : FuncData} (T : Txt K mg cls) (R : RawFn K mg "cheapest" s_cheapest ["tree", "price"] f fd) (A_best_under : FnAt P w K mg base cls "best_under" 68 ((f_best_under 64))) (I_NoPrice : ExI P w K mg base (cls 2) "NoPrice" "price") : FnAt P w K mg base cls "cheapest" 69 f_cheapest := by
  refine FnAt.mkE (en := gc) R sc_cheapest (end_gc T.su) (by decide) gf_cheapest fun cdv A outer s H E hr tk hp => ?_
  have nd := (sc_cheapest).nd
  have hu := hr.units
  exact rss_cons (rs_if (rt_cmp o_lt g_lt (re_ix (re_v 1) (re_int)) (re_int) (nomark _)) (rss_one (rs_raiseF 2 [112, 114, 105, 99, 101] rfl tk I_NoPrice rfl (hr.mono (by decide)) (by rfl) (re_v 1))) (rss_nil)) (rss_one (rs_ret (re_ix (re_fn A_best_under tk (hr.mono (by decide)) (by rfl) (ra_cons (re_v 0) (ra_cons (re_v 1) (ra_cons (re_str []) (ra_nil))))) (re_int))))
theorem sc_minus : FnScope ["one", "other"] ["one", "other"] (defScope s_minus) := ⟨rfl, rfl, rfl, by decide +kernel, rfl, by decide +kernel, by decide +kernel⟩
theorem grow_minus : GrowS b_minus := gs_ret (grow_call gf_ratio (gr_cons (grow_bin g_sub (grow_bin g_mul (grow_bin g_ix (gr_v _) (grow_c _)) (grow_bin g_ix (gr_v _) (grow_c _))) (grow_bin g_mul (grow_bin g_ix (gr_v _) (grow_c _)) (grow_bin g_ix (gr_v _) (grow_c _)))) (gr_cons (grow_bin g_mul (grow_bin g_ix (gr_v _) (grow_c _)) (grow_bin g_ix (gr_v _) (grow_c _))) (gr_nil))))
theorem gf_minus : GrC f_minus := grow_def grow_minus
theorem ok_minus {f : Addr} {fd : FuncData} (T : Txt K mg cls) (R : RawFn K mg "minus" s_minus ["one", "other"] f fd) (A_ratio : FnAt P w K mg base cls "ratio" 2 (f_ratio)) : FnAt P w K mg base cls "minus" 3 f_minus := by
  refine FnAt.mkE (en := gc) R sc_minus (end_gc T.su) (by decide) gf_minus fun cdv A outer s H E hr tk hp => ?_
  have nd := (sc_minus).nd
  have hu := hr.units
  exact rss_one (rs_ret (re_fn A_ratio tk (hr.mono (by decide)) (by rfl) (ra_cons (re_bin o_sub g_sub (re_bin o_mul g_mul (re_ix (re_v 0) (re_int)) (re_ix (re_v 1) (re_int))) (re_bin o_mul g_mul (re_ix (re_v 1) (re_int)) (re_ix (re_v 0) (re_int)))) (ra_cons (re_bin o_mul g_mul (re_ix (re_v 0) (re_int)) (re_ix (re_v 1) (re_int))) (ra_nil)))))
theorem sc_over : FnScope ["one", "other"] ["one", "other"] (defScope s_over) := ⟨rfl, rfl, rfl, by decide +kernel, rfl, by decide +kernel, by decide +kernel⟩
theorem grow_over : GrowS b_over := gs_seq (gs_if (grow_val (grow_bin g_eq (grow_bin g_ix (gr_v _) (grow_c _)) (grow_c _))) (gs_raise _) (gs_nx)) (gs_ret (grow_call gf_ratio (gr_cons (grow_bin g_mul (grow_bin g_ix (gr_v _) (grow_c _)) (grow_bin g_ix (gr_v _) (grow_c _))) (gr_cons (grow_bin g_mul (grow_bin g_ix (gr_v _) (grow_c _)) (grow_bin g_ix (gr_v _) (grow_c _))) (gr_nil)))))
theorem gf_over : GrC f_over := grow_def grow_over
theorem ok_over {f : Addr} {fd : FuncData} (T : Txt K mg cls) (R : RawFn K mg "over" s_over ["one", "other"] f fd) (A_ratio : FnAt P w K mg base cls "ratio" 2 (f_ratio)) : FnAt P w K mg base cls "over" 3 f_over := by
  refine FnAt.mkE (en := gc) R sc_over (end_gc T.su) (by decide) gf_over fun cdv A outer s H E hr tk hp => ?_
  have nd := (sc_over).nd
  have hu := hr.units
  exact rss_cons (rs_if (rt_cmp (o_eq hu) g_eq (re_ix (re_v 1) (re_int)) (re_int) (nomark _)) (rss_one (rs_raise 1 rfl tk T.x_NoRatio (by rfl))) (rss_nil)) (rss_one (rs_ret (re_fn A_ratio tk (hr.mono (by decide)) (by rfl) (ra_cons (re_bin o_mul g_mul (re_ix (re_v 0) (re_int)) (re_ix (re_v 1) (re_int))) (ra_cons (re_bin o_mul g_mul (re_ix (re_v 0) (re_int)) (re_ix (re_v 1) (re_int))) (ra_nil))))))
theorem sc_linked_under : FnScope ["tree", "places", "place", "yes_cost", "yes_many", "yes_links", "no_cost", "no_many", "no_links", "rest", "many", "own"] ["tree", "places", "place"] (defScope s_linked_under) := ⟨rfl, rfl, rfl, by decide +kernel, rfl, by decide +kernel, by decide +kernel⟩
theorem grow_linked_under {rec : Fn} (gr0 : GrC rec) : GrowS (b_linked_under rec) := gs_seq (gs_if (grow_val (grow_bin g_in (gr_v _) (gr_v _))) (gs_ret (gr_tup (gr_cons (grow_bin g_ix (gr_v _) (grow_c _)) (gr_cons (grow_c _) (gr_cons (gr_gz (gr_lst (gr_nil))) (gr_nil)))))) (gs_nx)) (gs_seq (gs_asg (grow_call gr0 (gr_cons (grow_bin g_ix (gr_v _) (grow_c _)) (gr_cons (gr_v _) (gr_cons (grow_bin g_add (gr_v _) (grow_c _)) (gr_nil)))))) (gs_seq (gs_asg (grow_call gr0 (gr_cons (grow_bin g_ix (gr_v _) (grow_c _)) (gr_cons (gr_v _) (gr_cons (grow_bin g_add (gr_v _) (grow_c _)) (gr_nil)))))) (gs_seq (gs_asg (grow_call gf_plus (gr_cons (gr_v _) (gr_cons (gr_v _) (gr_nil))))) (gs_seq (gs_asg (grow_bin g_add (gr_v _) (gr_v _))) (gs_seq (gs_asg (grow_call gf_over (gr_cons (grow_call gf_minus (gr_cons (grow_bin g_ix (gr_v _) (grow_c _)) (gr_cons (gr_v _) (gr_nil)))) (gr_cons (gr_tup (gr_cons (grow_bin g_sub (gr_v _) (grow_c _)) (gr_cons (grow_c _) (gr_nil)))) (gr_nil))))) (gs_ret (gr_tup (gr_cons (gr_v _) (gr_cons (gr_v _) (gr_cons (gr_gz (grow_bin g_add (gr_gz (grow_bin g_add (gr_gz (gr_lst (gr_cons (gr_tup (gr_cons (gr_v _) (gr_cons (gr_v _) (gr_nil)))) (gr_nil)))) (gr_v _))) (gr_v _))) (gr_nil)))))))))))
theorem gf_linked_under : ∀ m, GrC (f_linked_under m)
  | 0 => fun _ _ => trivial
  | m + 1 => grow_def (grow_linked_under (gf_linked_under m))
theorem ok_linked_under {f : Addr} {fd : FuncData} (T : Txt K mg cls) (R : RawFn K mg "linked_under" s_linked_under ["tree", "places", "place"] f fd) (A_plus : FnAt P w K mg base cls "plus" 3 (f_plus)) (A_minus : FnAt P w K mg base cls "minus" 3 (f_minus)) (A_over : FnAt P w K mg base cls "over" 3 (f_over)) : ∀ m, FnAt P w K mg base cls "linked_under" (3 + m + 1) (f_linked_under m)
  | 0 => fn_none R _
  | m + 1 => by
    have IH := ok_linked_under T R A_plus A_minus A_over m
    refine FnAt.mkE (en := gc) R sc_linked_under (end_gc T.su) (by decide) (gf_linked_under (m + 1)) fun cdv A outer s H E hr tk hp => ?_
    have nd := (sc_linked_under).nd
    have hu := hr.units
    exact rss_cons (rs_if (rt_cmp (o_in hu) g_in (re_v 2) (re_v 1) (by first | rfl | exact nomark _)) (rss_one (rs_ret (re_tup (ra_cons (re_ix (re_v 0) (re_int)) (ra_cons (re_int) (ra_cons (re_gz T.su (re_lst (ra_nil))) (ra_nil))))))) (rss_nil)) (rss_cons (rs_asg (re_fn IH tk (hr.mono (by omega)) (by rfl) (ra_cons (re_ix (re_v 0) (re_int)) (ra_cons (re_v 1) (ra_cons (re_bin o_add g_add (re_v 2) (re_str [121])) (ra_nil))))) (rg_t rfl (rgs_cons (rg_n 3 nd rfl (by first | exact Or.inl rfl | exact Or.inr rfl)) (rgs_cons (rg_n 4 nd rfl (by first | exact Or.inl rfl | exact Or.inr rfl)) (rgs_cons (rg_n 5 nd rfl (by first | exact Or.inl rfl | exact Or.inr rfl)) (rgs_nil)))))) (rss_cons (rs_asg (re_fn IH tk (hr.mono (by omega)) (by rfl) (ra_cons (re_ix (re_v 0) (re_int)) (ra_cons (re_v 1) (ra_cons (re_bin o_add g_add (re_v 2) (re_str [110])) (ra_nil))))) (rg_t rfl (rgs_cons (rg_n 6 nd rfl (by first | exact Or.inl rfl | exact Or.inr rfl)) (rgs_cons (rg_n 7 nd rfl (by first | exact Or.inl rfl | exact Or.inr rfl)) (rgs_cons (rg_n 8 nd rfl (by first | exact Or.inl rfl | exact Or.inr rfl)) (rgs_nil)))))) (rss_cons (rs_set 9 nd rfl (by first | exact Or.inl rfl | exact Or.inr rfl) (re_fn A_plus tk (hr.mono (by omega)) (by rfl) (ra_cons (re_v 3) (ra_cons (re_v 6) (ra_nil))))) (rss_cons (rs_set 10 nd rfl (by first | exact Or.inl rfl | exact Or.inr rfl) (re_bin o_add g_add (re_v 4) (re_v 7))) (rss_cons (rs_set 11 nd rfl (by first | exact Or.inl rfl | exact Or.inr rfl) (re_fn A_over tk (hr.mono (by omega)) (by rfl) (ra_cons (re_fn A_minus tk (hr.mono (by omega)) (by rfl) (ra_cons (re_ix (re_v 0) (re_int)) (ra_cons (re_v 9) (ra_nil)))) (ra_cons (re_tup (ra_cons (re_bin o_sub g_sub (re_v 10) (re_int)) (ra_cons (re_int) (ra_nil)))) (ra_nil))))) (rss_one (rs_ret (re_tup (ra_cons (re_v 9) (ra_cons (re_v 10) (ra_cons (re_gz T.su (re_bin o_add g_add (re_gz T.su (re_bin o_add g_add (re_gz T.su (re_lst (ra_cons (re_tup (ra_cons (re_v 2) (ra_cons (re_v 11) (ra_nil)))) (ra_nil)))) (re_v 8))) (re_v 5))) (ra_nil))))))))))))
theorem sc_all_links : FnScope ["tree", "places"] ["tree", "places"] (defScope s_all_links) := ⟨rfl, rfl, rfl, by decide +kernel, rfl, by decide +kernel, by decide +kernel⟩
theorem grow_all_links : GrowS b_all_links := gs_ret (grow_bin g_ix (grow_call (gf_linked_under _) (gr_cons (gr_v _) (gr_cons (gr_v _) (gr_cons (grow_c _) (gr_nil))))) (grow_c _))
theorem gf_all_links : GrC f_all_links := grow_def grow_all_links
theorem ok_all_links {f : Addr} {fd : FuncData} (T : Txt K mg cls) (R : RawFn K mg "all_links" s_all_links ["tree", "places"] f fd) (A_linked_under : FnAt P w K mg base cls "linked_under" 68 ((f_linked_under 64))) : FnAt P w K mg base cls "all_links" 69 f_all_links := by
  refine FnAt.mkE (en := gc) R sc_all_links (end_gc T.su) (by decide) gf_all_links fun cdv A outer s H E hr tk hp => ?_
  have nd := (sc_all_links).nd
  have hu := hr.units
  exact rss_one (rs_ret (re_ix (re_fn A_linked_under tk (hr.mono (by decide)) (by rfl) (ra_cons (re_v 0) (ra_cons (re_v 1) (ra_cons (re_str []) (ra_nil))))) (re_int)))
theorem sc_tops_of : FnScope ["places", "place", "top"] ["places", "place"] (defScope s_tops_of) := ⟨rfl, rfl, rfl, by decide +kernel, rfl, by decide +kernel, by decide +kernel⟩
theorem grow_tops_of : GrowS b_tops_of := gs_ret (gr_gz (grow_comp (gi_any (gr_v _)) (grow_val (gr_met gm_starts (gr_v _) (gr_cons (gr_v _) (gr_nil)))) (gr_v _)))
theorem gf_tops_of : GrC f_tops_of := grow_def grow_tops_of
theorem ok_tops_of {f : Addr} {fd : FuncData} (T : Txt K mg cls) (R : RawFn K mg "tops_of" s_tops_of ["places", "place"] f fd)  : FnAt P w K mg base cls "tops_of" 1 f_tops_of := by
  refine FnAt.mkE (en := gc) R sc_tops_of (end_gc T.su) (by decide) gf_tops_of fun cdv A outer s H E hr tk hp => ?_
  have nd := (sc_tops_of).nd
  have hu := hr.units
  exact rss_one (rs_ret (re_gz T.su (re_comp (own := [("top", 2)]) rfl nd (ri_any (re_v 0)) (blkOk_by (own := [("top", 2)]) (N := ["places", "place", "top"]) (sc := defScope s_tops_of) (by decide +kernel)) (fun _ _ _ _ _ => rg_n 2 nd rfl (by first | exact Or.inl rfl | exact Or.inr rfl)) (fun _ _ _ _ _ => rts_one (rt_val (re_met (k := .str) PySem.F.plainAttrs_str PySem.F.slot_str_startswith PySem.F.type_str_startswith m_starts gm_starts (re_v 1) (ra_cons (re_v 2) (ra_nil))))) (fun _ _ _ _ _ => re_v 2) (grow_val (gr_met gm_starts (gr_v _) (gr_cons (gr_v _) (gr_nil)))) (gr_v _) (by decide))))
theorem sc_cut : FnScope ["places", "places_of_forks", "kept", "outer", "place"] ["places", "places_of_forks"] (defScope s_cut) := ⟨rfl, rfl, rfl, by decide +kernel, rfl, by decide +kernel, by decide +kernel⟩
theorem grow_cut : GrowS b_cut := gs_seq (gs_asg (gr_gz (grow_comp (gi_any (gr_v _)) (grow_val (grow_bin g_eq (grow_call gc_len (gr_cons (grow_call gf_tops_of (gr_cons (gr_v _) (gr_cons (gr_v _) (gr_nil)))) (gr_nil))) (grow_c _))) (gr_v _)))) (gs_seq (gs_asg (gr_gz (grow_comp (gi_any (gr_v _)) (grow_val (grow_bin g_eq (grow_call gc_len (gr_cons (grow_call gf_tops_of (gr_cons (gr_v _) (gr_cons (gr_v _) (gr_nil)))) (gr_nil))) (grow_c _))) (gr_v _)))) (gs_ret (gr_gz (grow_call gc_sorted (gr_cons (gr_gz (grow_bin g_add (gr_v _) (gr_v _))) (gr_nil))))))
theorem gf_cut : GrC f_cut := grow_def grow_cut
theorem ok_cut {f : Addr} {fd : FuncData} (T : Txt K mg cls) (R : RawFn K mg "cut" s_cut ["places", "places_of_forks"] f fd) (A_tops_of : FnAt P w K mg base cls "tops_of" 1 (f_tops_of)) : FnAt P w K mg base cls "cut" 2 f_cut := by
  refine FnAt.mkE (en := gc) R sc_cut (end_gc T.su) (by decide) gf_cut fun cdv A outer s H E hr tk hp => ?_
  have nd := (sc_cut).nd
  have hu := hr.units
  exact rss_cons (rs_gzN T.su (rs_setComp (own := [("place", 4)]) 2 rfl nd rfl rfl (sw_true rfl rfl rfl (by decide +kernel)) (ri_any (re_v 0)) (blkOk_by (own := [("place", 4)]) (N := ["places", "places_of_forks", "kept", "outer", "place"]) (sc := defScope s_cut) (by decide +kernel)) (fun _ _ _ _ _ => rg_n 4 nd rfl (by first | exact Or.inl rfl | exact Or.inr rfl)) (fun _ _ _ _ _ => rts_one (rt_cmp (o_eq hu) g_eq (re_biB c_len gc_len (by rfl) T.n_len boot_len (ra_cons (re_fn A_tops_of takes0 (hr.mono (by decide)) (by rfl) (ra_cons (re_v 1) (ra_cons (re_v 4) (ra_nil)))) (ra_nil))) (re_int) (nomark _))) (fun _ _ _ _ _ => re_v 4) (grow_val (grow_bin g_eq (grow_call gc_len (gr_cons (grow_call gf_tops_of (gr_cons (gr_v _) (gr_cons (gr_v _) (gr_nil)))) (gr_nil))) (grow_c _))) (gr_v _) (by decide)) (grow_comp (gi_any (gr_v _)) (grow_val (grow_bin g_eq (grow_call gc_len (gr_cons (grow_call gf_tops_of (gr_cons (gr_v _) (gr_cons (gr_v _) (gr_nil)))) (gr_nil))) (grow_c _))) (gr_v _))) (rss_cons (rs_gzN T.su (rs_setComp (own := [("place", 4)]) 3 rfl nd rfl rfl (sw_true rfl rfl rfl (by decide +kernel)) (ri_any (re_v 1)) (blkOk_by (own := [("place", 4)]) (N := ["places", "places_of_forks", "kept", "outer", "place"]) (sc := defScope s_cut) (by decide +kernel)) (fun _ _ _ _ _ => rg_n 4 nd rfl (by first | exact Or.inl rfl | exact Or.inr rfl)) (fun _ _ _ _ _ => rts_one (rt_cmp (o_eq hu) g_eq (re_biB c_len gc_len (by rfl) T.n_len boot_len (ra_cons (re_fn A_tops_of takes0 (hr.mono (by decide)) (by rfl) (ra_cons (re_v 1) (ra_cons (re_v 4) (ra_nil)))) (ra_nil))) (re_int) (nomark _))) (fun _ _ _ _ _ => re_v 4) (grow_val (grow_bin g_eq (grow_call gc_len (gr_cons (grow_call gf_tops_of (gr_cons (gr_v _) (gr_cons (gr_v _) (gr_nil)))) (gr_nil))) (grow_c _))) (gr_v _) (by decide)) (grow_comp (gi_any (gr_v _)) (grow_val (grow_bin g_eq (grow_call gc_len (gr_cons (grow_call gf_tops_of (gr_cons (gr_v _) (gr_cons (gr_v _) (gr_nil)))) (gr_nil))) (grow_c _))) (gr_v _))) (rss_one (rs_ret (re_gz T.su (re_biB (c_sorted rfl) gc_sorted (by rfl) T.n_sorted boot_sorted (ra_cons (re_gz T.su (re_bin o_add g_add (re_v 2) (re_v 3))) (ra_nil)))))))
theorem sc_least_link : FnScope ["linked", "least", "place", "own"] ["linked"] (defScope s_least_link) := ⟨rfl, rfl, rfl, by decide +kernel, rfl, by decide +kernel, by decide +kernel⟩
theorem gl_L1_least_link : GrowS L1_least_link := gs_if (grow_val (grow_call gf_under (gr_cons (gr_v _) (gr_cons (gr_v _) (gr_nil))))) (gs_asg (gr_v _)) (gs_nx)
theorem grow_least_link : GrowS b_least_link := gs_seq (gs_asg (grow_bin g_ix (grow_bin g_ix (gr_v _) (grow_c _)) (grow_c _))) (gs_seq (gs_for (gi_any (gr_v _)) (gl_L1_least_link)) (gs_ret (gr_v _)))
theorem gf_least_link : GrC f_least_link := grow_def grow_least_link
theorem ok_least_link {f : Addr} {fd : FuncData} (T : Txt K mg cls) (R : RawFn K mg "least_link" s_least_link ["linked"] f fd) (A_under : FnAt P w K mg base cls "under" 1 (f_under)) : FnAt P w K mg base cls "least_link" 2 f_least_link := by
  refine FnAt.mkE (en := gc) R sc_least_link (end_gc T.su) (by decide) gf_least_link fun cdv A outer s H E hr tk hp => ?_
  have nd := (sc_least_link).nd
  have hu := hr.units
  exact rss_cons (rs_set 1 nd rfl (by first | exact Or.inl rfl | exact Or.inr rfl) (re_ix (re_ix (re_v 0) (re_int)) (re_int))) (rss_cons (rs_for hp rfl (ri_any (re_v 0)) (rg_t rfl (rgs_cons (rg_n 2 nd rfl (by first | exact Or.inl rfl | exact Or.inr rfl)) (rgs_cons (rg_n 3 nd rfl (by first | exact Or.inl rfl | exact Or.inr rfl)) (rgs_nil)))) (rss_one (rs_if (rt_val (re_fn A_under tk (hr.mono (by decide)) (by rfl) (ra_cons (re_v 3) (ra_cons (re_v 1) (ra_nil))))) (rss_one (rs_set 1 nd rfl (by first | exact Or.inl rfl | exact Or.inr rfl) (re_v 3))) (rss_nil)))) (rss_one (rs_ret (re_v 1))))
theorem sc_path : FnScope ["tree", "price", "places", "steps", "linked", "place", "own"] ["tree"] (defScope s_path) := ⟨rfl, rfl, rfl, by decide +kernel, rfl, by decide +kernel, by decide +kernel⟩
theorem gl_L1_path : GrowS L1_path := gs_seq (gs_asg (grow_call gf_all_links (gr_cons (gr_v _) (gr_cons (gr_v _) (gr_nil))))) (gs_seq (gs_asg (grow_call gf_least_link (gr_cons (gr_v _) (gr_nil)))) (gs_seq (gs_asg (grow_call gf_cut (gr_cons (gr_v _) (gr_cons (gr_gz (grow_comp (gi_any (gr_v _)) (grow_val (grow_bin g_eq (gr_v _) (gr_v _))) (gr_v _))) (gr_nil))))) (gs_exp (gr_met gm_append (gr_v _) (gr_cons (gr_tup (gr_cons (gr_v _) (gr_cons (gr_v _) (gr_nil)))) (gr_nil))))))
theorem grow_path : GrowS b_path := gs_seq (gs_asg (gr_tup (gr_cons (grow_c _) (gr_cons (grow_c _) (gr_nil))))) (gs_seq (gs_asg (grow_call gf_cheapest (gr_cons (gr_v _) (gr_cons (gr_v _) (gr_nil))))) (gs_seq (gs_asg (gr_lst (gr_cons (gr_tup (gr_cons (gr_v _) (gr_cons (gr_v _) (gr_nil)))) (gr_nil)))) (gs_seq (gs_while (grow_val (grow_bin g_ne (gr_v _) (gr_gz (gr_lst (gr_cons (grow_c _) (gr_nil)))))) (gl_L1_path)) (gs_ret (gr_v _)))))
theorem gf_path : GrC f_path := grow_def grow_path
theorem ok_path {f : Addr} {fd : FuncData} (T : Txt K mg cls) (R : RawFn K mg "path" s_path ["tree"] f fd) (A_cheapest : FnAt P w K mg base cls "cheapest" 69 (f_cheapest)) (A_all_links : FnAt P w K mg base cls "all_links" 69 (f_all_links)) (A_cut : FnAt P w K mg base cls "cut" 2 (f_cut)) (A_least_link : FnAt P w K mg base cls "least_link" 2 (f_least_link)) : FnAt P w K mg base cls "path" 70 f_path := by
  refine FnAt.mkE (en := gc) R sc_path (end_gc T.su) (by decide) gf_path fun cdv A outer s H E hr tk hp => ?_
  have nd := (sc_path).nd
  have hu := hr.units
  exact rss_cons (rs_set 1 nd rfl (by first | exact Or.inl rfl | exact Or.inr rfl) (re_tup (ra_cons (re_int) (ra_cons (re_int) (ra_nil))))) (rss_cons (rs_set 2 nd rfl (by first | exact Or.inl rfl | exact Or.inr rfl) (re_fn A_cheapest tk (hr.mono (by decide)) (by rfl) (ra_cons (re_v 0) (ra_cons (re_v 1) (ra_nil))))) (rss_cons (rs_set 3 nd rfl (by first | exact Or.inl rfl | exact Or.inr rfl) (re_lst (ra_cons (re_tup (ra_cons (re_v 1) (ra_cons (re_v 2) (ra_nil)))) (ra_nil)))) (rss_cons (rs_while hp (rt_cmp (o_ne hu) g_ne (re_v 2) (re_gz T.su (re_lst (ra_cons (re_str []) (ra_nil)))) (nomark _)) (rss_cons (rs_set 4 nd rfl (by first | exact Or.inl rfl | exact Or.inr rfl) (re_fn A_all_links tk (hr.mono (by decide)) (by rfl) (ra_cons (re_v 0) (ra_cons (re_v 2) (ra_nil))))) (rss_cons (rs_set 1 nd rfl (by first | exact Or.inl rfl | exact Or.inr rfl) (re_fn A_least_link tk (hr.mono (by decide)) (by rfl) (ra_cons (re_v 4) (ra_nil)))) (rss_cons (rs_set 2 nd rfl (by first | exact Or.inl rfl | exact Or.inr rfl) (re_fn A_cut tk (hr.mono (by decide)) (by rfl) (ra_cons (re_v 2) (ra_cons (re_gz T.su (re_comp (own := [("place", 5), ("own", 6)]) rfl nd (ri_any (re_v 4)) (blkOk_by (own := [("place", 5), ("own", 6)]) (N := ["tree", "price", "places", "steps", "linked", "place", "own"]) (sc := defScope s_path) (by decide +kernel)) (fun _ _ _ _ _ => rg_t rfl (rgs_cons (rg_n 5 nd rfl (by first | exact Or.inl rfl | exact Or.inr rfl)) (rgs_cons (rg_n 6 nd rfl (by first | exact Or.inl rfl | exact Or.inr rfl)) (rgs_nil)))) (fun _ _ _ _ _ => rts_one (rt_cmp (o_eq hu) g_eq (re_v 6) (re_v 1) (nomark _))) (fun _ _ _ _ _ => re_v 5) (grow_val (grow_bin g_eq (gr_v _) (gr_v _))) (gr_v _) (by decide))) (ra_nil))))) (rss_one (rs_exp (re_met (k := .lst) PySem.F.plainAttrs_list PySem.F.slot_list_append PySem.F.type_list_append m_append gm_append (re_v 3) (ra_cons (re_tup (ra_cons (re_v 1) (ra_cons (re_v 2) (ra_nil)))) (ra_nil))))))))) (rss_one (rs_ret (re_v 3))))))
theorem sc__law_cell : FnScope ["_law_script", "_law_k"] ["_law_script", "_law_k"] (defScope s__law_cell) := ⟨rfl, rfl, rfl, by decide +kernel, rfl, by decide +kernel, by decide +kernel⟩
theorem grow__law_cell : GrowS b__law_cell := gs_seq (gs_if (grow_val (grow_bin g_lt (gr_v _) (grow_call gc_len (gr_cons (gr_v _) (gr_nil))))) (gs_ret (grow_bin g_ix (gr_v _) (gr_v _))) (gs_nx)) (gs_ret (grow_c _))
theorem gf__law_cell : GrC f__law_cell := grow_def grow__law_cell
theorem ok__law_cell {f : Addr} {fd : FuncData} (T : Txt K mg cls) (R : RawFn K mg "_law_cell" s__law_cell ["_law_script", "_law_k"] f fd)  : FnAt P w K mg base cls "_law_cell" 1 f__law_cell := by
  refine FnAt.mkE (en := gc) R sc__law_cell (end_gc T.su) (by decide) gf__law_cell fun cdv A outer s H E hr tk hp => ?_
  have nd := (sc__law_cell).nd
  have hu := hr.units
  exact rss_cons (rs_if (rt_cmp o_lt g_lt (re_v 1) (re_biB c_len gc_len (by rfl) T.n_len boot_len (ra_cons (re_v 0) (ra_nil))) (nomark _)) (rss_one (rs_ret (re_ix (re_v 0) (re_v 1)))) (rss_nil)) (rss_one (rs_ret (re_int)))
theorem sc__law_pick : FnScope ["_law_cell_here", "_law_turn", "_law_many", "_law_mixed"] ["_law_cell_here", "_law_turn", "_law_many"] (defScope s__law_pick) := ⟨rfl, rfl, rfl, by decide +kernel, rfl, by decide +kernel, by decide +kernel⟩
theorem grow__law_pick : GrowS b__law_pick := gs_seq (gs_asg (grow_bin g_mod (grow_bin g_mul (grow_bin g_add (grow_bin g_mod (gr_v _) (grow_c _)) (grow_c _)) (grow_bin g_add (grow_c _) (grow_bin g_mul (grow_c _) (gr_v _)))) (grow_c _))) (gs_ret (grow_bin g_mod (grow_bin g_div (grow_bin g_mod (grow_bin g_mul (gr_v _) (grow_c _)) (grow_c _)) (grow_c _)) (gr_v _)))
theorem gf__law_pick : GrC f__law_pick := grow_def grow__law_pick
theorem ok__law_pick {f : Addr} {fd : FuncData} (T : Txt K mg cls) (R : RawFn K mg "_law_pick" s__law_pick ["_law_cell_here", "_law_turn", "_law_many"] f fd)  : FnAt P w K mg base cls "_law_pick" 1 f__law_pick := by
  refine FnAt.mkE (en := gc) R sc__law_pick (end_gc T.su) (by decide) gf__law_pick fun cdv A outer s H E hr tk hp => ?_
  have nd := (sc__law_pick).nd
  have hu := hr.units
  exact rss_cons (rs_set 3 nd rfl (by first | exact Or.inl rfl | exact Or.inr rfl) (re_bin o_mod g_mod (re_bin o_mul g_mul (re_bin o_add g_add (re_bin o_mod g_mod (re_v 0) (re_int)) (re_int)) (re_bin o_add g_add (re_int) (re_bin o_mul g_mul (re_int) (re_v 1)))) (re_int))) (rss_one (rs_ret (re_bin o_mod g_mod (re_bin o_div g_div (re_bin o_mod g_mod (re_bin o_mul g_mul (re_v 3) (re_int)) (re_int)) (re_int)) (re_v 2))))
theorem sc__law_lowest : FnScope ["_law_top", "_law_bottom_here", "_law_one", "_law_two", "_law_rest"] ["_law_top", "_law_bottom_here"] (defScope s__law_lowest) := ⟨rfl, rfl, rfl, by decide +kernel, rfl, by decide +kernel, by decide +kernel⟩
theorem gl_L1__law_lowest : GrowS L1__law_lowest := gs_seq (gs_asg (grow_bin g_mod (gr_v _) (gr_v _))) (gs_seq (gs_asg (gr_v _)) (gs_asg (gr_v _)))
theorem grow__law_lowest : GrowS b__law_lowest := gs_seq (gs_asg (grow_call gc_abs (gr_cons (gr_v _) (gr_nil)))) (gs_seq (gs_asg (gr_v _)) (gs_seq (gs_while (grow_val (grow_bin g_gt (gr_v _) (grow_c _))) (gl_L1__law_lowest)) (gs_ret (gr_tup (gr_cons (grow_bin g_div (gr_v _) (gr_v _)) (gr_cons (grow_bin g_div (gr_v _) (gr_v _)) (gr_nil)))))))
theorem gf__law_lowest : GrC f__law_lowest := grow_def grow__law_lowest
theorem ok__law_lowest {f : Addr} {fd : FuncData} (T : Txt K mg cls) (R : RawFn K mg "_law_lowest" s__law_lowest ["_law_top", "_law_bottom_here"] f fd)  : FnAt P w K mg base cls "_law_lowest" 1 f__law_lowest := by
  refine FnAt.mkE (en := gc) R sc__law_lowest (end_gc T.su) (by decide) gf__law_lowest fun cdv A outer s H E hr tk hp => ?_
  have nd := (sc__law_lowest).nd
  have hu := hr.units
  exact rss_cons (rs_set 2 nd rfl (by first | exact Or.inl rfl | exact Or.inr rfl) (re_biB c_abs gc_abs (by rfl) T.n_abs boot_abs (ra_cons (re_v 0) (ra_nil)))) (rss_cons (rs_set 3 nd rfl (by first | exact Or.inl rfl | exact Or.inr rfl) (re_v 1)) (rss_cons (rs_while hp (rt_cmp o_gt g_gt (re_v 3) (re_int) (nomark _)) (rss_cons (rs_set 4 nd rfl (by first | exact Or.inl rfl | exact Or.inr rfl) (re_bin o_mod g_mod (re_v 2) (re_v 3))) (rss_cons (rs_set 2 nd rfl (by first | exact Or.inl rfl | exact Or.inr rfl) (re_v 3)) (rss_one (rs_set 3 nd rfl (by first | exact Or.inl rfl | exact Or.inr rfl) (re_v 4)))))) (rss_one (rs_ret (re_tup (ra_cons (re_bin o_div g_div (re_v 0) (re_v 2)) (ra_cons (re_bin o_div g_div (re_v 1) (re_v 2)) (ra_nil))))))))
theorem sc__law_worth : FnScope ["_law_cell_here", "_law_way"] ["_law_cell_here", "_law_way"] (defScope s__law_worth) := ⟨rfl, rfl, rfl, by decide +kernel, rfl, by decide +kernel, by decide +kernel⟩
theorem grow__law_worth : GrowS b__law_worth := gs_seq (gs_if (grow_val (grow_bin g_eq (grow_bin g_div (gr_v _) (grow_c _)) (grow_c _))) (gs_ret (grow_bin g_sub (grow_call gf__law_pick (gr_cons (gr_v _) (gr_cons (grow_c _) (gr_cons (grow_c _) (gr_nil))))) (grow_c _))) (gs_nx)) (gs_seq (gs_if (grow_val (grow_bin g_eq (grow_bin g_div (gr_v _) (grow_c _)) (grow_c _))) (gs_ret (grow_bin g_mod (gr_v _) (grow_c _))) (gs_nx)) (gs_ret (grow_bin g_sub (grow_bin g_mod (gr_v _) (grow_bin g_pow (grow_c _) (grow_c _))) (grow_bin g_mul (grow_c _) (grow_bin g_pow (grow_c _) (grow_c _))))))
theorem gf__law_worth : GrC f__law_worth := grow_def grow__law_worth
theorem ok__law_worth {f : Addr} {fd : FuncData} (T : Txt K mg cls) (R : RawFn K mg "_law_worth" s__law_worth ["_law_cell_here", "_law_way"] f fd) (A__law_pick : FnAt P w K mg base cls "_law_pick" 1 (f__law_pick)) : FnAt P w K mg base cls "_law_worth" 2 f__law_worth := by
  refine FnAt.mkE (en := gc) R sc__law_worth (end_gc T.su) (by decide) gf__law_worth fun cdv A outer s H E hr tk hp => ?_
  have nd := (sc__law_worth).nd
  have hu := hr.units
  exact rss_cons (rs_if (rt_cmp (o_eq hu) g_eq (re_bin o_div g_div (re_v 1) (re_int)) (re_int) (nomark _)) (rss_one (rs_ret (re_bin o_sub g_sub (re_fn A__law_pick tk (hr.mono (by decide)) (by rfl) (ra_cons (re_v 0) (ra_cons (re_int) (ra_cons (re_int) (ra_nil))))) (re_int)))) (rss_nil)) (rss_cons (rs_if (rt_cmp (o_eq hu) g_eq (re_bin o_div g_div (re_v 1) (re_int)) (re_int) (nomark _)) (rss_one (rs_ret (re_bin o_mod g_mod (re_v 0) (re_int)))) (rss_nil)) (rss_one (rs_ret (re_bin o_sub g_sub (re_bin o_mod g_mod (re_v 0) (re_bin o_pow g_pow (re_int) (re_int))) (re_bin o_mul g_mul (re_int) (re_bin o_pow g_pow (re_int) (re_int)))))))
theorem sc__law_joined : FnScope ["_law_cell_here", "_law_one", "_law_two", "_law_way", "_law_sums", "_law_leaves", "_law_worth_here"] ["_law_cell_here", "_law_one", "_law_two", "_law_way"] (defScope s__law_joined) := ⟨rfl, rfl, rfl, by decide +kernel, rfl, by decide +kernel, by decide +kernel⟩
theorem grow__law_joined : GrowS b__law_joined := gs_seq (gs_asg (grow_bin g_add (grow_bin g_ix (gr_v _) (grow_c _)) (grow_bin g_ix (gr_v _) (grow_c _)))) (gs_seq (gs_asg (grow_bin g_add (grow_bin g_ix (gr_v _) (grow_c _)) (grow_bin g_ix (gr_v _) (grow_c _)))) (gs_seq (gs_asg (grow_bin g_add (gr_v _) (grow_bin g_mul (grow_bin g_sub (grow_call gf__law_pick (gr_cons (gr_v _) (gr_cons (grow_c _) (gr_cons (grow_c _) (gr_nil))))) (grow_c _)) (grow_bin g_sub (gr_v _) (grow_c _))))) (gs_seq (gs_if (grow_val (grow_bin g_eq (grow_bin g_mod (gr_v _) (grow_c _)) (grow_c _))) (gs_asg (grow_bin g_add (gr_v _) (grow_bin g_mul (grow_call gc_abs (gr_cons (grow_call gf__law_worth (gr_cons (grow_bin g_add (grow_bin g_div (gr_v _) (grow_c _)) (grow_c _)) (gr_cons (gr_v _) (gr_nil)))) (gr_nil))) (grow_bin g_sub (grow_c _) (grow_bin g_mul (grow_c _) (grow_bin g_div (grow_call gf__law_pick (gr_cons (gr_v _) (gr_cons (grow_c _) (gr_cons (grow_c _) (gr_nil))))) (grow_c _))))))) (gs_nx)) (gs_seq (gs_if (grow_val (grow_bin g_eq (grow_call gf__law_pick (gr_cons (gr_v _) (gr_cons (grow_c _) (gr_cons (grow_c _) (gr_nil))))) (grow_c _))) (gs_ret (gr_tup (gr_cons (gr_tup (gr_cons (grow_c _) (gr_cons (gr_v _) (gr_cons (grow_bin g_ix (gr_v _) (grow_c _)) (gr_cons (grow_bin g_ix (gr_v _) (grow_c _)) (gr_nil)))))) (gr_cons (gr_v _) (gr_cons (gr_v _) (gr_nil)))))) (gs_nx)) (gs_ret (gr_tup (gr_cons (gr_tup (gr_cons (grow_c _) (gr_cons (gr_v _) (gr_cons (grow_bin g_ix (gr_v _) (grow_c _)) (gr_cons (grow_bin g_ix (gr_v _) (grow_c _)) (gr_nil)))))) (gr_cons (gr_v _) (gr_cons (gr_v _) (gr_nil))))))))))
theorem gf__law_joined : GrC f__law_joined := grow_def grow__law_joined
theorem ok__law_joined {f : Addr} {fd : FuncData} (T : Txt K mg cls) (R : RawFn K mg "_law_joined" s__law_joined ["_law_cell_here", "_law_one", "_law_two", "_law_way"] f fd) (A__law_pick : FnAt P w K mg base cls "_law_pick" 1 (f__law_pick)) (A__law_worth : FnAt P w K mg base cls "_law_worth" 2 (f__law_worth)) : FnAt P w K mg base cls "_law_joined" 3 f__law_joined := by
  refine FnAt.mkE (en := gc) R sc__law_joined (end_gc T.su) (by decide) gf__law_joined fun cdv A outer s H E hr tk hp => ?_
  have nd := (sc__law_joined).nd
  have hu := hr.units
  exact rss_cons (rs_set 4 nd rfl (by first | exact Or.inl rfl | exact Or.inr rfl) (re_bin o_add g_add (re_ix (re_v 1) (re_int)) (re_ix (re_v 2) (re_int)))) (rss_cons (rs_set 5 nd rfl (by first | exact Or.inl rfl | exact Or.inr rfl) (re_bin o_add g_add (re_ix (re_v 1) (re_int)) (re_ix (re_v 2) (re_int)))) (rss_cons (rs_set 6 nd rfl (by first | exact Or.inl rfl | exact Or.inr rfl) (re_bin o_add g_add (re_v 4) (re_bin o_mul g_mul (re_bin o_sub g_sub (re_fn A__law_pick tk (hr.mono (by decide)) (by rfl) (ra_cons (re_v 0) (ra_cons (re_int) (ra_cons (re_int) (ra_nil))))) (re_int)) (re_bin o_sub g_sub (re_v 5) (re_int))))) (rss_cons (rs_if (rt_cmp (o_eq hu) g_eq (re_bin o_mod g_mod (re_v 3) (re_int)) (re_int) (nomark _)) (rss_one (rs_set 6 nd rfl (by first | exact Or.inl rfl | exact Or.inr rfl) (re_bin o_add g_add (re_v 4) (re_bin o_mul g_mul (re_biB c_abs gc_abs (by rfl) T.n_abs boot_abs (ra_cons (re_fn A__law_worth tk (hr.mono (by decide)) (by rfl) (ra_cons (re_bin o_add g_add (re_bin o_div g_div (re_v 0) (re_int)) (re_int)) (ra_cons (re_v 3) (ra_nil)))) (ra_nil))) (re_bin o_sub g_sub (re_int) (re_bin o_mul g_mul (re_int) (re_bin o_div g_div (re_fn A__law_pick tk (hr.mono (by decide)) (by rfl) (ra_cons (re_v 0) (ra_cons (re_int) (ra_cons (re_int) (ra_nil))))) (re_int)))))))) (rss_nil)) (rss_cons (rs_if (rt_cmp (o_eq hu) g_eq (re_fn A__law_pick tk (hr.mono (by decide)) (by rfl) (ra_cons (re_v 0) (ra_cons (re_int) (ra_cons (re_int) (ra_nil))))) (re_int) (nomark _)) (rss_one (rs_ret (re_tup (ra_cons (re_tup (ra_cons (re_str [102, 111, 114, 107]) (ra_cons (re_v 6) (ra_cons (re_ix (re_v 1) (re_int)) (ra_cons (re_ix (re_v 2) (re_int)) (ra_nil)))))) (ra_cons (re_v 4) (ra_cons (re_v 5) (ra_nil))))))) (rss_nil)) (rss_one (rs_ret (re_tup (ra_cons (re_tup (ra_cons (re_str [102, 111, 114, 107]) (ra_cons (re_v 6) (ra_cons (re_ix (re_v 2) (re_int)) (ra_cons (re_ix (re_v 1) (re_int)) (ra_nil)))))) (ra_cons (re_v 4) (ra_cons (re_v 5) (ra_nil)))))))))))
theorem sc__law_tree : FnScope ["_law_cells", "_law_way", "_law_pile", "_law_k", "_law_cell_here", "_law_worth_here", "_law_folds", "_law_last"] ["_law_cells", "_law_way"] (defScope s__law_tree) := ⟨rfl, rfl, rfl, by decide +kernel, rfl, by decide +kernel, by decide +kernel⟩
theorem gl_L1__law_tree : GrowS L1__law_tree := gs_seq (gs_asg (gr_met gm_pop (gr_v _) (gr_nil))) (gs_seq (gs_sub (grow_call gf__law_joined (gr_cons (grow_bin g_add (gr_v _) (gr_v _)) (gr_cons (grow_bin g_ix (gr_v _) (grow_un g_neg (grow_c _))) (gr_cons (gr_v _) (gr_cons (grow_bin g_mod (gr_v _) (grow_c _)) (gr_nil)))))) (gr_v _) (grow_un g_neg (grow_c _))) (gs_aug g_sub (grow_c _)))
theorem gl_L2__law_tree : GrowS L2__law_tree := gs_seq (gs_asg (grow_call gf__law_worth (gr_cons (gr_v _) (gr_cons (grow_bin g_mod (gr_v _) (grow_c _)) (gr_nil))))) (gs_seq (gs_exp (gr_met gm_append (gr_v _) (gr_cons (gr_tup (gr_cons (gr_tup (gr_cons (grow_c _) (gr_cons (gr_v _) (gr_nil)))) (gr_cons (gr_v _) (gr_cons (grow_c _) (gr_nil))))) (gr_nil)))) (gs_seq (gs_asg (grow_call gf__law_pick (gr_cons (gr_v _) (gr_cons (grow_c _) (gr_cons (grow_c _) (gr_nil)))))) (gs_seq (gs_if (grow_val (grow_bin g_eq (grow_bin g_div (gr_v _) (grow_c _)) (grow_c _))) (gs_asg (grow_c _)) (gs_nx)) (gs_while (gr_tand (grow_val (grow_bin g_gt (gr_v _) (grow_c _))) (grow_val (grow_bin g_gt (grow_call gc_len (gr_cons (gr_v _) (gr_nil))) (grow_c _)))) (gl_L1__law_tree)))))
theorem gl_L3__law_tree : GrowS L3__law_tree := gs_seq (gs_asg (gr_met gm_pop (gr_v _) (gr_nil))) (gs_sub (grow_call gf__law_joined (gr_cons (grow_bin g_add (grow_bin g_ix (gr_v _) (grow_c _)) (grow_call gc_len (gr_cons (gr_v _) (gr_nil)))) (gr_cons (grow_bin g_ix (gr_v _) (grow_un g_neg (grow_c _))) (gr_cons (gr_v _) (gr_cons (grow_bin g_mod (gr_v _) (grow_c _)) (gr_nil)))))) (gr_v _) (grow_un g_neg (grow_c _)))
theorem grow__law_tree : GrowS b__law_tree := gs_seq (gs_asg (gr_lst (gr_nil))) (gs_seq (gs_for (gi_enum (gr_gz (gr_sl (gr_v _) (gr_pno) (gr_pat (grow_c _))))) (gl_L2__law_tree)) (gs_seq (gs_while (grow_val (grow_bin g_gt (grow_call gc_len (gr_cons (gr_v _) (gr_nil))) (grow_c _))) (gl_L3__law_tree)) (gs_seq (gs_if (gr_tand (grow_val (grow_bin g_eq (grow_call gf__law_pick (gr_cons (grow_bin g_ix (gr_v _) (grow_c _)) (gr_cons (grow_c _) (gr_cons (grow_c _) (gr_nil))))) (grow_c _))) (grow_val (grow_bin g_lt (grow_bin g_ix (grow_bin g_ix (gr_v _) (grow_c _)) (grow_c _)) (grow_c _)))) (gs_sub (grow_call gf__law_joined (gr_cons (grow_bin g_ix (gr_v _) (grow_c _)) (gr_cons (grow_bin g_ix (gr_v _) (grow_c _)) (gr_cons (grow_bin g_ix (gr_v _) (grow_c _)) (gr_cons (grow_bin g_mod (gr_v _) (grow_c _)) (gr_nil)))))) (gr_v _) (grow_c _)) (gs_nx)) (gs_ret (grow_bin g_ix (grow_bin g_ix (gr_v _) (grow_c _)) (grow_c _))))))
theorem gf__law_tree : GrC f__law_tree := grow_def grow__law_tree
theorem ok__law_tree {f : Addr} {fd : FuncData} (T : Txt K mg cls) (R : RawFn K mg "_law_tree" s__law_tree ["_law_cells", "_law_way"] f fd) (A__law_pick : FnAt P w K mg base cls "_law_pick" 1 (f__law_pick)) (A__law_worth : FnAt P w K mg base cls "_law_worth" 2 (f__law_worth)) (A__law_joined : FnAt P w K mg base cls "_law_joined" 3 (f__law_joined)) : FnAt P w K mg base cls "_law_tree" 4 f__law_tree := by
  refine FnAt.mkE (en := gc) R sc__law_tree (end_gc T.su) (by decide) gf__law_tree fun cdv A outer s H E hr tk hp => ?_
  have nd := (sc__law_tree).nd
  have hu := hr.units
  exact rss_cons (rs_set 2 nd rfl (by first | exact Or.inl rfl | exact Or.inr rfl) (re_lst (ra_nil))) (rss_cons (rs_for hp rfl (ri_enum (by rfl) T.n_enumerate (re_gz T.su (re_sl (re_v 0) (rp_no) (rp_at (re_int))))) (rg_t rfl (rgs_cons (rg_n 3 nd rfl (by first | exact Or.inl rfl | exact Or.inr rfl)) (rgs_cons (rg_n 4 nd rfl (by first | exact Or.inl rfl | exact Or.inr rfl)) (rgs_nil)))) (rss_cons (rs_set 5 nd rfl (by first | exact Or.inl rfl | exact Or.inr rfl) (re_fn A__law_worth tk (hr.mono (by decide)) (by rfl) (ra_cons (re_v 4) (ra_cons (re_bin o_mod g_mod (re_v 1) (re_int)) (ra_nil))))) (rss_cons (rs_exp (re_met (k := .lst) PySem.F.plainAttrs_list PySem.F.slot_list_append PySem.F.type_list_append m_append gm_append (re_v 2) (ra_cons (re_tup (ra_cons (re_tup (ra_cons (re_str [101, 110, 100]) (ra_cons (re_v 5) (ra_nil)))) (ra_cons (re_v 5) (ra_cons (re_int) (ra_nil))))) (ra_nil)))) (rss_cons (rs_set 6 nd rfl (by first | exact Or.inl rfl | exact Or.inr rfl) (re_fn A__law_pick tk (hr.mono (by decide)) (by rfl) (ra_cons (re_v 4) (ra_cons (re_int) (ra_cons (re_int) (ra_nil)))))) (rss_cons (rs_if (rt_cmp (o_eq hu) g_eq (re_bin o_div g_div (re_v 1) (re_int)) (re_int) (nomark _)) (rss_one (rs_set 6 nd rfl (by first | exact Or.inl rfl | exact Or.inr rfl) (re_int))) (rss_nil)) (rss_one (rs_while hp (rt_w (rw_and (rt_cmp o_gt g_gt (re_v 6) (re_int) (nomark _)) (rw_and1 (rt_cmp o_gt g_gt (re_biB c_len gc_len (by rfl) T.n_len boot_len (ra_cons (re_v 2) (ra_nil))) (re_int) (nomark _))))) (rss_cons (rs_set 7 nd rfl (by first | exact Or.inl rfl | exact Or.inr rfl) (re_met0 (k := .lst) PySem.F.plainAttrs_list PySem.F.slot_list_pop PySem.F.type_list_pop m_pop gm_pop (re_v 2))) (rss_cons (rs_sub hu (re_fn A__law_joined tk (hr.mono (by decide)) (by rfl) (ra_cons (re_bin o_add g_add (re_v 4) (re_v 6)) (ra_cons (re_ix (re_v 2) (re_un o_neg g_neg (re_int))) (ra_cons (re_v 7) (ra_cons (re_bin o_mod g_mod (re_v 1) (re_int)) (ra_nil)))))) (re_v 2) (re_un o_neg g_neg (re_int))) (rss_one (rs_augI 6 nd rfl (by first | exact Or.inl rfl | exact Or.inr rfl) (re_int) ip_sub g_sub subI_or))))))))))) (rss_cons (rs_while hp (rt_cmp o_gt g_gt (re_biB c_len gc_len (by rfl) T.n_len boot_len (ra_cons (re_v 2) (ra_nil))) (re_int) (nomark _)) (rss_cons (rs_set 7 nd rfl (by first | exact Or.inl rfl | exact Or.inr rfl) (re_met0 (k := .lst) PySem.F.plainAttrs_list PySem.F.slot_list_pop PySem.F.type_list_pop m_pop gm_pop (re_v 2))) (rss_one (rs_sub hu (re_fn A__law_joined tk (hr.mono (by decide)) (by rfl) (ra_cons (re_bin o_add g_add (re_ix (re_v 0) (re_int)) (re_biB c_len gc_len (by rfl) T.n_len boot_len (ra_cons (re_v 2) (ra_nil)))) (ra_cons (re_ix (re_v 2) (re_un o_neg g_neg (re_int))) (ra_cons (re_v 7) (ra_cons (re_bin o_mod g_mod (re_v 1) (re_int)) (ra_nil)))))) (re_v 2) (re_un o_neg g_neg (re_int)))))) (rss_cons (rs_if (rt_w (rw_and (rt_cmp (o_eq hu) g_eq (re_fn A__law_pick tk (hr.mono (by decide)) (by rfl) (ra_cons (re_ix (re_v 0) (re_int)) (ra_cons (re_int) (ra_cons (re_int) (ra_nil))))) (re_int) (nomark _)) (rw_and1 (rt_cmp o_lt g_lt (re_ix (re_ix (re_v 2) (re_int)) (re_int)) (re_int) (nomark _))))) (rss_one (rs_sub hu (re_fn A__law_joined tk (hr.mono (by decide)) (by rfl) (ra_cons (re_ix (re_v 0) (re_int)) (ra_cons (re_ix (re_v 2) (re_int)) (ra_cons (re_ix (re_v 2) (re_int)) (ra_cons (re_bin o_mod g_mod (re_v 1) (re_int)) (ra_nil)))))) (re_v 2) (re_int))) (rss_nil)) (rss_one (rs_ret (re_ix (re_ix (re_v 2) (re_int)) (re_int)))))))
theorem sc__law_digit : FnScope ["_law_bag", "_law_many", "_law_digit_here"] ["_law_bag", "_law_many"] (defScope s__law_digit) := ⟨rfl, rfl, rfl, by decide +kernel, rfl, by decide +kernel, by decide +kernel⟩
theorem grow__law_digit : GrowS b__law_digit := gs_seq (gs_if (grow_val (grow_bin g_gt (grow_bin g_ix (gr_v _) (grow_c _)) (grow_c _))) (gs_seq (gs_asg (grow_bin g_mod (grow_bin g_ix (gr_v _) (grow_c _)) (gr_v _))) (gs_seq (gs_sub (grow_bin g_div (grow_bin g_ix (gr_v _) (grow_c _)) (gr_v _)) (gr_v _) (grow_c _)) (gs_ret (gr_v _)))) (gs_nx)) (gs_seq (gs_sub (grow_bin g_mod (grow_bin g_add (grow_bin g_mul (grow_bin g_ix (gr_v _) (grow_c _)) (grow_c _)) (grow_c _)) (grow_c _)) (gr_v _) (grow_c _)) (gs_ret (grow_bin g_mod (grow_bin g_div (grow_bin g_ix (gr_v _) (grow_c _)) (grow_c _)) (gr_v _))))
theorem gf__law_digit : GrC f__law_digit := grow_def grow__law_digit
theorem ok__law_digit {f : Addr} {fd : FuncData} (T : Txt K mg cls) (R : RawFn K mg "_law_digit" s__law_digit ["_law_bag", "_law_many"] f fd)  : FnAt P w K mg base cls "_law_digit" 1 f__law_digit := by
  refine FnAt.mkE (en := gc) R sc__law_digit (end_gc T.su) (by decide) gf__law_digit fun cdv A outer s H E hr tk hp => ?_
  have nd := (sc__law_digit).nd
  have hu := hr.units
  exact rss_cons (rs_if (rt_cmp o_gt g_gt (re_ix (re_v 0) (re_int)) (re_int) (nomark _)) (rss_cons (rs_set 2 nd rfl (by first | exact Or.inl rfl | exact Or.inr rfl) (re_bin o_mod g_mod (re_ix (re_v 0) (re_int)) (re_v 1))) (rss_cons (rs_sub hu (re_bin o_div g_div (re_ix (re_v 0) (re_int)) (re_v 1)) (re_v 0) (re_int)) (rss_one (rs_ret (re_v 2))))) (rss_nil)) (rss_cons (rs_sub hu (re_bin o_mod g_mod (re_bin o_add g_add (re_bin o_mul g_mul (re_ix (re_v 0) (re_int)) (re_int)) (re_int)) (re_int)) (re_v 0) (re_int)) (rss_one (rs_ret (re_bin o_mod g_mod (re_bin o_div g_div (re_ix (re_v 0) (re_int)) (re_int)) (re_v 1)))))
theorem sc__law_dug_from : FnScope ["_law_bag", "_law_span", "_law_worth_here", "_law_bit", "_law_yes"] ["_law_bag", "_law_span"] (defScope s__law_dug_from) := ⟨rfl, rfl, rfl, by decide +kernel, rfl, by decide +kernel, by decide +kernel⟩
theorem grow__law_dug_from {rec : Fn} (gr0 : GrC rec) : GrowS (b__law_dug_from rec) := gs_seq (gs_asg (grow_bin g_sub (grow_call gf__law_digit (gr_cons (gr_v _) (gr_cons (gr_v _) (gr_nil)))) (grow_bin g_div (gr_v _) (grow_c _)))) (gs_seq (gs_asg (grow_call gf__law_digit (gr_cons (gr_v _) (gr_cons (grow_c _) (gr_nil))))) (gs_seq (gs_if (gr_tor (grow_val (grow_bin g_eq (gr_v _) (grow_c _))) (grow_val (grow_bin g_eq (grow_bin g_ix (gr_v _) (grow_c _)) (grow_c _)))) (gs_ret (gr_tup (gr_cons (grow_c _) (gr_cons (gr_v _) (gr_nil))))) (gs_nx)) (gs_seq (gs_augX g_sub (gr_v _) (grow_c _) (grow_c _)) (gs_seq (gs_asg (grow_call gr0 (gr_cons (gr_v _) (gr_cons (gr_v _) (gr_nil))))) (gs_ret (gr_tup (gr_cons (grow_c _) (gr_cons (gr_v _) (gr_cons (gr_v _) (gr_cons (grow_call gr0 (gr_cons (gr_v _) (gr_cons (gr_v _) (gr_nil)))) (gr_nil)))))))))))
theorem gf__law_dug_from : ∀ m, GrC (f__law_dug_from m)
  | 0 => fun _ _ => trivial
  | m + 1 => grow_def (grow__law_dug_from (gf__law_dug_from m))
theorem ok__law_dug_from {f : Addr} {fd : FuncData} (T : Txt K mg cls) (R : RawFn K mg "_law_dug_from" s__law_dug_from ["_law_bag", "_law_span"] f fd) (A__law_digit : FnAt P w K mg base cls "_law_digit" 1 (f__law_digit)) : ∀ m, FnAt P w K mg base cls "_law_dug_from" (1 + m + 1) (f__law_dug_from m)
  | 0 => fn_none R _
  | m + 1 => by
    have IH := ok__law_dug_from T R A__law_digit m
    refine FnAt.mkE (en := gc) R sc__law_dug_from (end_gc T.su) (by decide) (gf__law_dug_from (m + 1)) fun cdv A outer s H E hr tk hp => ?_
    have nd := (sc__law_dug_from).nd
    have hu := hr.units
    exact rss_cons (rs_set 2 nd rfl (by first | exact Or.inl rfl | exact Or.inr rfl) (re_bin o_sub g_sub (re_fn A__law_digit tk (hr.mono (by omega)) (by rfl) (ra_cons (re_v 0) (ra_cons (re_v 1) (ra_nil)))) (re_bin o_div g_div (re_v 1) (re_int)))) (rss_cons (rs_set 3 nd rfl (by first | exact Or.inl rfl | exact Or.inr rfl) (re_fn A__law_digit tk (hr.mono (by omega)) (by rfl) (ra_cons (re_v 0) (ra_cons (re_int) (ra_nil))))) (rss_cons (rs_if (rt_w (rw_or (rt_cmp (o_eq hu) g_eq (re_v 3) (re_int) (nomark _)) (rw_or1 (rt_cmp (o_eq hu) g_eq (re_ix (re_v 0) (re_int)) (re_int) (nomark _))))) (rss_one (rs_ret (re_tup (ra_cons (re_str [101, 110, 100]) (ra_cons (re_v 2) (ra_nil)))))) (rss_nil)) (rss_cons (rs_augX hu (re_v 0) (re_int) (re_int) ip_sub g_sub subI_or) (rss_cons (rs_set 4 nd rfl (by first | exact Or.inl rfl | exact Or.inr rfl) (re_fn IH tk (hr.mono (by omega)) (by rfl) (ra_cons (re_v 0) (ra_cons (re_v 1) (ra_nil))))) (rss_one (rs_ret (re_tup (ra_cons (re_str [102, 111, 114, 107]) (ra_cons (re_v 2) (ra_cons (re_v 4) (ra_cons (re_fn IH tk (hr.mono (by omega)) (by rfl) (ra_cons (re_v 0) (ra_cons (re_v 1) (ra_nil)))) (ra_nil))))))))))))
theorem sc__law_dug : FnScope ["_law_cell_here"] ["_law_cell_here"] (defScope s__law_dug) := ⟨rfl, rfl, rfl, by decide +kernel, rfl, by decide +kernel, by decide +kernel⟩
theorem grow__law_dug : GrowS b__law_dug := gs_ret (grow_call (gf__law_dug_from _) (gr_cons (gr_lst (gr_cons (grow_bin g_div (gr_v _) (grow_c _)) (gr_cons (grow_c _) (gr_cons (grow_bin g_mod (gr_v _) (grow_c _)) (gr_nil))))) (gr_cons (grow_bin g_ix (gr_gz (gr_lst (gr_cons (grow_c _) (gr_cons (grow_c _) (gr_cons (grow_bin g_pow (grow_c _) (grow_c _)) (gr_nil)))))) (grow_bin g_mod (gr_v _) (grow_c _))) (gr_nil))))
theorem gf__law_dug : GrC f__law_dug := grow_def grow__law_dug
theorem ok__law_dug {f : Addr} {fd : FuncData} (T : Txt K mg cls) (R : RawFn K mg "_law_dug" s__law_dug ["_law_cell_here"] f fd) (A__law_dug_from : FnAt P w K mg base cls "_law_dug_from" 66 ((f__law_dug_from 64))) : FnAt P w K mg base cls "_law_dug" 67 f__law_dug := by
  refine FnAt.mkE (en := gc) R sc__law_dug (end_gc T.su) (by decide) gf__law_dug fun cdv A outer s H E hr tk hp => ?_
  have nd := (sc__law_dug).nd
  have hu := hr.units
  exact rss_one (rs_ret (re_fn A__law_dug_from tk (hr.mono (by decide)) (by rfl) (ra_cons (re_lst (ra_cons (re_bin o_div g_div (re_v 0) (re_int)) (ra_cons (re_int) (ra_cons (re_bin o_mod g_mod (re_v 0) (re_int)) (ra_nil))))) (ra_cons (re_ix (re_gz T.su (re_lst (ra_cons (re_int) (ra_cons (re_int) (ra_cons (re_bin o_pow g_pow (re_int) (re_int)) (ra_nil)))))) (re_bin o_mod g_mod (re_v 0) (re_int))) (ra_nil)))))
theorem sc__law_handed : FnScope ["_law_tree_here", "_law_bottom_here", "_law_yes", "_law_no"] ["_law_tree_here", "_law_bottom_here"] (defScope s__law_handed) := ⟨rfl, rfl, rfl, by decide +kernel, rfl, by decide +kernel, by decide +kernel⟩
theorem grow__law_handed {rec : Fn} (gr0 : GrC rec) : GrowS (b__law_handed rec) := gs_seq (gs_if (grow_val (grow_bin g_eq (grow_bin g_ix (gr_v _) (grow_c _)) (grow_c _))) (gs_ret (gr_tup (gr_cons (grow_c _) (gr_cons (grow_call gf__law_lowest (gr_cons (grow_bin g_ix (gr_v _) (grow_c _)) (gr_cons (gr_v _) (gr_nil)))) (gr_nil))))) (gs_nx)) (gs_seq (gs_asg (grow_call gr0 (gr_cons (grow_bin g_ix (gr_v _) (grow_c _)) (gr_cons (gr_v _) (gr_nil))))) (gs_seq (gs_asg (gr_v _)) (gs_seq (gs_if (grow_val (grow_bin g_ne (grow_bin g_ix (gr_v _) (grow_c _)) (grow_bin g_ix (gr_v _) (grow_c _)))) (gs_asg (grow_call gr0 (gr_cons (grow_bin g_ix (gr_v _) (grow_c _)) (gr_cons (gr_v _) (gr_nil))))) (gs_nx)) (gs_ret (gr_tup (gr_cons (grow_c _) (gr_cons (grow_call gf__law_lowest (gr_cons (grow_bin g_ix (gr_v _) (grow_c _)) (gr_cons (gr_v _) (gr_nil)))) (gr_cons (gr_v _) (gr_cons (gr_v _) (gr_nil))))))))))
theorem gf__law_handed : ∀ m, GrC (f__law_handed m)
  | 0 => fun _ _ => trivial
  | m + 1 => grow_def (grow__law_handed (gf__law_handed m))
theorem ok__law_handed {f : Addr} {fd : FuncData} (T : Txt K mg cls) (R : RawFn K mg "_law_handed" s__law_handed ["_law_tree_here", "_law_bottom_here"] f fd) (A__law_lowest : FnAt P w K mg base cls "_law_lowest" 1 (f__law_lowest)) : ∀ m, FnAt P w K mg base cls "_law_handed" (1 + m + 1) (f__law_handed m)
  | 0 => fn_none R _
  | m + 1 => by
    have IH := ok__law_handed T R A__law_lowest m
    refine FnAt.mkE (en := gc) R sc__law_handed (end_gc T.su) (by decide) (gf__law_handed (m + 1)) fun cdv A outer s H E hr tk hp => ?_
    have nd := (sc__law_handed).nd
    have hu := hr.units
    exact rss_cons (rs_if (rt_cmp (o_eq hu) g_eq (re_ix (re_v 0) (re_int)) (re_str [101, 110, 100]) (nomark _)) (rss_one (rs_ret (re_tup (ra_cons (re_str [101, 110, 100]) (ra_cons (re_fn A__law_lowest tk (hr.mono (by omega)) (by rfl) (ra_cons (re_ix (re_v 0) (re_int)) (ra_cons (re_v 1) (ra_nil)))) (ra_nil)))))) (rss_nil)) (rss_cons (rs_set 2 nd rfl (by first | exact Or.inl rfl | exact Or.inr rfl) (re_fn IH tk (hr.mono (by omega)) (by rfl) (ra_cons (re_ix (re_v 0) (re_int)) (ra_cons (re_v 1) (ra_nil))))) (rss_cons (rs_set 3 nd rfl (by first | exact Or.inl rfl | exact Or.inr rfl) (re_v 2)) (rss_cons (rs_if (rt_cmp (o_ne hu) g_ne (re_ix (re_v 0) (re_int)) (re_ix (re_v 0) (re_int)) (nomark _)) (rss_one (rs_set 3 nd rfl (by first | exact Or.inl rfl | exact Or.inr rfl) (re_fn IH tk (hr.mono (by omega)) (by rfl) (ra_cons (re_ix (re_v 0) (re_int)) (ra_cons (re_v 1) (ra_nil)))))) (rss_nil)) (rss_one (rs_ret (re_tup (ra_cons (re_str [102, 111, 114, 107]) (ra_cons (re_fn A__law_lowest tk (hr.mono (by omega)) (by rfl) (ra_cons (re_ix (re_v 0) (re_int)) (ra_cons (re_v 1) (ra_nil)))) (ra_cons (re_v 2) (ra_cons (re_v 3) (ra_nil)))))))))))
theorem sc__law_bottom : FnScope ["_law_cell_here", "_law_way"] ["_law_cell_here"] (defScope s__law_bottom) := ⟨rfl, rfl, rfl, by decide +kernel, rfl, by decide +kernel, by decide +kernel⟩
theorem grow__law_bottom : GrowS b__law_bottom := gs_seq (gs_asg (grow_call gf__law_pick (gr_cons (gr_v _) (gr_cons (grow_c _) (gr_cons (grow_c _) (gr_nil)))))) (gs_seq (gs_if (grow_val (grow_bin g_eq (gr_v _) (grow_c _))) (gs_ret (grow_c _)) (gs_nx)) (gs_seq (gs_if (grow_val (grow_bin g_eq (gr_v _) (grow_c _))) (gs_ret (grow_bin g_add (grow_c _) (grow_bin g_mod (grow_bin g_div (gr_v _) (grow_c _)) (grow_bin g_sub (grow_bin g_pow (grow_c _) (grow_c _)) (grow_c _))))) (gs_nx)) (gs_ret (grow_bin g_add (grow_c _) (grow_bin g_mod (grow_bin g_div (gr_v _) (grow_c _)) (grow_c _))))))
theorem gf__law_bottom : GrC f__law_bottom := grow_def grow__law_bottom
theorem ok__law_bottom {f : Addr} {fd : FuncData} (T : Txt K mg cls) (R : RawFn K mg "_law_bottom" s__law_bottom ["_law_cell_here"] f fd) (A__law_pick : FnAt P w K mg base cls "_law_pick" 1 (f__law_pick)) : FnAt P w K mg base cls "_law_bottom" 2 f__law_bottom := by
  refine FnAt.mkE (en := gc) R sc__law_bottom (end_gc T.su) (by decide) gf__law_bottom fun cdv A outer s H E hr tk hp => ?_
  have nd := (sc__law_bottom).nd
  have hu := hr.units
  exact rss_cons (rs_set 1 nd rfl (by first | exact Or.inl rfl | exact Or.inr rfl) (re_fn A__law_pick tk (hr.mono (by decide)) (by rfl) (ra_cons (re_v 0) (ra_cons (re_int) (ra_cons (re_int) (ra_nil)))))) (rss_cons (rs_if (rt_cmp (o_eq hu) g_eq (re_v 1) (re_int) (nomark _)) (rss_one (rs_ret (re_int))) (rss_nil)) (rss_cons (rs_if (rt_cmp (o_eq hu) g_eq (re_v 1) (re_int) (nomark _)) (rss_one (rs_ret (re_bin o_add g_add (re_int) (re_bin o_mod g_mod (re_bin o_div g_div (re_v 0) (re_int)) (re_bin o_sub g_sub (re_bin o_pow g_pow (re_int) (re_int)) (re_int)))))) (rss_nil)) (rss_one (rs_ret (re_bin o_add g_add (re_int) (re_bin o_mod g_mod (re_bin o_div g_div (re_v 0) (re_int)) (re_int)))))))
theorem sc__law_first : FnScope ["_law_tree_here", "_law_place", "_law_yes", "_law_no"] ["_law_tree_here", "_law_place"] (defScope s__law_first) := ⟨rfl, rfl, rfl, by decide +kernel, rfl, by decide +kernel, by decide +kernel⟩
theorem grow__law_first {rec : Fn} (gr0 : GrC rec) : GrowS (b__law_first rec) := gs_seq (gs_if (grow_val (grow_bin g_eq (grow_bin g_ix (gr_v _) (grow_c _)) (grow_c _))) (gs_ret (gr_tup (gr_cons (grow_bin g_ix (gr_v _) (grow_c _)) (gr_cons (gr_gz (gr_lst (gr_cons (gr_v _) (gr_nil)))) (gr_nil))))) (gs_nx)) (gs_seq (gs_asg (grow_call gr0 (gr_cons (grow_bin g_ix (gr_v _) (grow_c _)) (gr_cons (grow_bin g_add (gr_v _) (grow_c _)) (gr_nil))))) (gs_seq (gs_asg (grow_call gr0 (gr_cons (grow_bin g_ix (gr_v _) (grow_c _)) (gr_cons (grow_bin g_add (gr_v _) (grow_c _)) (gr_nil))))) (gs_seq (gs_if (grow_val (grow_bin g_le (grow_bin g_ix (gr_v _) (grow_c _)) (grow_bin g_add (grow_bin g_ix (gr_v _) (grow_c _)) (grow_bin g_ix (gr_v _) (grow_c _))))) (gs_ret (gr_tup (gr_cons (grow_bin g_ix (gr_v _) (grow_c _)) (gr_cons (gr_gz (gr_lst (gr_cons (gr_v _) (gr_nil)))) (gr_nil))))) (gs_nx)) (gs_ret (gr_tup (gr_cons (grow_bin g_add (grow_bin g_ix (gr_v _) (grow_c _)) (grow_bin g_ix (gr_v _) (grow_c _))) (gr_cons (grow_bin g_add (grow_bin g_ix (gr_v _) (grow_c _)) (grow_bin g_ix (gr_v _) (grow_c _))) (gr_nil))))))))
theorem gf__law_first : ∀ m, GrC (f__law_first m)
  | 0 => fun _ _ => trivial
  | m + 1 => grow_def (grow__law_first (gf__law_first m))
theorem ok__law_first {f : Addr} {fd : FuncData} (T : Txt K mg cls) (R : RawFn K mg "_law_first" s__law_first ["_law_tree_here", "_law_place"] f fd)  : ∀ m, FnAt P w K mg base cls "_law_first" (0 + m + 1) (f__law_first m)
  | 0 => fn_none R _
  | m + 1 => by
    have IH := ok__law_first T R  m
    refine FnAt.mkE (en := gc) R sc__law_first (end_gc T.su) (by decide) (gf__law_first (m + 1)) fun cdv A outer s H E hr tk hp => ?_
    have nd := (sc__law_first).nd
    have hu := hr.units
    exact rss_cons (rs_if (rt_cmp (o_eq hu) g_eq (re_ix (re_v 0) (re_int)) (re_str [101, 110, 100]) (nomark _)) (rss_one (rs_ret (re_tup (ra_cons (re_ix (re_v 0) (re_int)) (ra_cons (re_gz T.su (re_lst (ra_cons (re_v 1) (ra_nil)))) (ra_nil)))))) (rss_nil)) (rss_cons (rs_set 2 nd rfl (by first | exact Or.inl rfl | exact Or.inr rfl) (re_fn IH tk (hr.mono (by omega)) (by rfl) (ra_cons (re_ix (re_v 0) (re_int)) (ra_cons (re_bin o_add g_add (re_v 1) (re_str [121])) (ra_nil))))) (rss_cons (rs_set 3 nd rfl (by first | exact Or.inl rfl | exact Or.inr rfl) (re_fn IH tk (hr.mono (by omega)) (by rfl) (ra_cons (re_ix (re_v 0) (re_int)) (ra_cons (re_bin o_add g_add (re_v 1) (re_str [110])) (ra_nil))))) (rss_cons (rs_if (rt_cmp o_le g_le (re_ix (re_v 0) (re_int)) (re_bin o_add g_add (re_ix (re_v 2) (re_int)) (re_ix (re_v 3) (re_int))) (nomark _)) (rss_one (rs_ret (re_tup (ra_cons (re_ix (re_v 0) (re_int)) (ra_cons (re_gz T.su (re_lst (ra_cons (re_v 1) (ra_nil)))) (ra_nil)))))) (rss_nil)) (rss_one (rs_ret (re_tup (ra_cons (re_bin o_add g_add (re_ix (re_v 2) (re_int)) (re_ix (re_v 3) (re_int))) (ra_cons (re_bin o_add g_add (re_ix (re_v 3) (re_int)) (re_ix (re_v 2) (re_int))) (ra_nil)))))))))
theorem sc__law_links : FnScope ["_law_tree_here", "_law_places", "_law_place", "_law_yes", "_law_no", "_law_sums", "_law_many"] ["_law_tree_here", "_law_places", "_law_place"] (defScope s__law_links) := ⟨rfl, rfl, rfl, by decide +kernel, rfl, by decide +kernel, by decide +kernel⟩
theorem grow__law_links {rec : Fn} (gr0 : GrC rec) : GrowS (b__law_links rec) := gs_seq (gs_if (grow_val (grow_bin g_in (gr_v _) (gr_v _))) (gs_ret (gr_tup (gr_cons (grow_bin g_ix (gr_v _) (grow_c _)) (gr_cons (grow_c _) (gr_cons (gr_gz (gr_lst (gr_nil))) (gr_nil)))))) (gs_nx)) (gs_seq (gs_asg (grow_call gr0 (gr_cons (grow_bin g_ix (gr_v _) (grow_c _)) (gr_cons (gr_v _) (gr_cons (grow_bin g_add (gr_v _) (grow_c _)) (gr_nil)))))) (gs_seq (gs_asg (grow_call gr0 (gr_cons (grow_bin g_ix (gr_v _) (grow_c _)) (gr_cons (gr_v _) (gr_cons (grow_bin g_add (gr_v _) (grow_c _)) (gr_nil)))))) (gs_seq (gs_asg (grow_bin g_add (grow_bin g_ix (gr_v _) (grow_c _)) (grow_bin g_ix (gr_v _) (grow_c _)))) (gs_seq (gs_asg (grow_bin g_add (grow_bin g_ix (gr_v _) (grow_c _)) (grow_bin g_ix (gr_v _) (grow_c _)))) (gs_ret (gr_tup (gr_cons (gr_v _) (gr_cons (gr_v _) (gr_cons (gr_gz (grow_bin g_add (gr_gz (grow_bin g_add (gr_gz (gr_lst (gr_cons (gr_tup (gr_cons (gr_v _) (gr_cons (grow_bin g_sub (grow_bin g_ix (gr_v _) (grow_c _)) (gr_v _)) (gr_cons (grow_bin g_sub (gr_v _) (grow_c _)) (gr_nil))))) (gr_nil)))) (grow_bin g_ix (gr_v _) (grow_c _)))) (grow_bin g_ix (gr_v _) (grow_c _)))) (gr_nil))))))))))
theorem gf__law_links : ∀ m, GrC (f__law_links m)
  | 0 => fun _ _ => trivial
  | m + 1 => grow_def (grow__law_links (gf__law_links m))
theorem ok__law_links {f : Addr} {fd : FuncData} (T : Txt K mg cls) (R : RawFn K mg "_law_links" s__law_links ["_law_tree_here", "_law_places", "_law_place"] f fd)  : ∀ m, FnAt P w K mg base cls "_law_links" (0 + m + 1) (f__law_links m)
  | 0 => fn_none R _
  | m + 1 => by
    have IH := ok__law_links T R  m
    refine FnAt.mkE (en := gc) R sc__law_links (end_gc T.su) (by decide) (gf__law_links (m + 1)) fun cdv A outer s H E hr tk hp => ?_
    have nd := (sc__law_links).nd
    have hu := hr.units
    exact rss_cons (rs_if (rt_cmp (o_in hu) g_in (re_v 2) (re_v 1) (by first | rfl | exact nomark _)) (rss_one (rs_ret (re_tup (ra_cons (re_ix (re_v 0) (re_int)) (ra_cons (re_int) (ra_cons (re_gz T.su (re_lst (ra_nil))) (ra_nil))))))) (rss_nil)) (rss_cons (rs_set 3 nd rfl (by first | exact Or.inl rfl | exact Or.inr rfl) (re_fn IH tk (hr.mono (by omega)) (by rfl) (ra_cons (re_ix (re_v 0) (re_int)) (ra_cons (re_v 1) (ra_cons (re_bin o_add g_add (re_v 2) (re_str [121])) (ra_nil)))))) (rss_cons (rs_set 4 nd rfl (by first | exact Or.inl rfl | exact Or.inr rfl) (re_fn IH tk (hr.mono (by omega)) (by rfl) (ra_cons (re_ix (re_v 0) (re_int)) (ra_cons (re_v 1) (ra_cons (re_bin o_add g_add (re_v 2) (re_str [110])) (ra_nil)))))) (rss_cons (rs_set 5 nd rfl (by first | exact Or.inl rfl | exact Or.inr rfl) (re_bin o_add g_add (re_ix (re_v 3) (re_int)) (re_ix (re_v 4) (re_int)))) (rss_cons (rs_set 6 nd rfl (by first | exact Or.inl rfl | exact Or.inr rfl) (re_bin o_add g_add (re_ix (re_v 3) (re_int)) (re_ix (re_v 4) (re_int)))) (rss_one (rs_ret (re_tup (ra_cons (re_v 5) (ra_cons (re_v 6) (ra_cons (re_gz T.su (re_bin o_add g_add (re_gz T.su (re_bin o_add g_add (re_gz T.su (re_lst (ra_cons (re_tup (ra_cons (re_v 2) (ra_cons (re_bin o_sub g_sub (re_ix (re_v 0) (re_int)) (re_v 5)) (ra_cons (re_bin o_sub g_sub (re_v 6) (re_int)) (ra_nil))))) (ra_nil)))) (re_ix (re_v 4) (re_int)))) (re_ix (re_v 3) (re_int)))) (ra_nil)))))))))))
theorem sc__law_next : FnScope ["_law_mine", "_law_places", "_law_links_here", "_law_rest", "_law_many", "_law_one", "_law_some", "_law_made", "_law_place", "_law_shortest", "_law_top"] ["_law_mine", "_law_places"] (defScope s__law_next) := ⟨rfl, rfl, rfl, by decide +kernel, rfl, by decide +kernel, by decide +kernel⟩
theorem gl_L1__law_next : GrowS L1__law_next := gs_if (grow_val (grow_bin g_lt (grow_bin g_mul (grow_bin g_ix (gr_v _) (grow_c _)) (gr_v _)) (grow_bin g_mul (gr_v _) (grow_bin g_ix (gr_v _) (grow_c _))))) (gs_seq (gs_asg (grow_bin g_ix (gr_v _) (grow_c _))) (gs_asg (grow_bin g_ix (gr_v _) (grow_c _)))) (gs_nx)
theorem gl_L2__law_next : GrowS L2__law_next := gs_seq (gs_asg (grow_call gc_minLen (gr_cons (gr_gz (grow_bin g_add (gr_gz (grow_comp (gi_any (gr_v _)) (grow_val (grow_bin g_eq (gr_gz (gr_sl (gr_v _) (gr_pno) (gr_pat (grow_call gc_len (gr_cons (gr_v _) (gr_nil)))))) (gr_v _))) (gr_v _))) (gr_gz (gr_lst (gr_cons (gr_v _) (gr_nil)))))) (gr_nil)))) (gs_if (grow_val (grow_bin g_nin (gr_v _) (gr_v _))) (gs_exp (gr_met gm_append (gr_v _) (gr_cons (gr_v _) (gr_nil)))) (gs_nx))
theorem grow__law_next : GrowS b__law_next := gs_seq (gs_asg (grow_bin g_ix (grow_call (gf__law_links _) (gr_cons (gr_v _) (gr_cons (gr_v _) (gr_cons (grow_c _) (gr_nil))))) (grow_c _))) (gs_seq (gs_asg (grow_bin g_ix (grow_bin g_ix (gr_v _) (grow_c _)) (grow_c _))) (gs_seq (gs_asg (grow_bin g_ix (grow_bin g_ix (gr_v _) (grow_c _)) (grow_c _))) (gs_seq (gs_for (gi_any (gr_v _)) (gl_L1__law_next)) (gs_seq (gs_asg (gr_gz (grow_comp (gi_any (gr_v _)) (grow_val (grow_bin g_eq (grow_bin g_mul (grow_bin g_ix (gr_v _) (grow_c _)) (gr_v _)) (grow_bin g_mul (gr_v _) (grow_bin g_ix (gr_v _) (grow_c _))))) (grow_bin g_ix (gr_v _) (grow_c _))))) (gs_seq (gs_asg (gr_lst (gr_nil))) (gs_seq (gs_for (gi_any (gr_v _)) (gl_L2__law_next)) (gs_ret (gr_tup (gr_cons (gr_v _) (gr_cons (gr_v _) (gr_cons (gr_gz (grow_call gc_sorted (gr_cons (gr_v _) (gr_nil)))) (gr_nil))))))))))))
theorem gf__law_next : GrC f__law_next := grow_def grow__law_next
theorem ok__law_next {f : Addr} {fd : FuncData} (T : Txt K mg cls) (R : RawFn K mg "_law_next" s__law_next ["_law_mine", "_law_places"] f fd) (A__law_links : FnAt P w K mg base cls "_law_links" 65 ((f__law_links 64))) : FnAt P w K mg base cls "_law_next" 66 f__law_next := by
  refine FnAt.mkE (en := gc) R sc__law_next (end_gc T.su) (by decide) gf__law_next fun cdv A outer s H E hr tk hp => ?_
  have nd := (sc__law_next).nd
  have hu := hr.units
  exact rss_cons (rs_set 2 nd rfl (by first | exact Or.inl rfl | exact Or.inr rfl) (re_ix (re_fn A__law_links tk (hr.mono (by decide)) (by rfl) (ra_cons (re_v 0) (ra_cons (re_v 1) (ra_cons (re_str []) (ra_nil))))) (re_int))) (rss_cons (rs_set 3 nd rfl (by first | exact Or.inl rfl | exact Or.inr rfl) (re_ix (re_ix (re_v 2) (re_int)) (re_int))) (rss_cons (rs_set 4 nd rfl (by first | exact Or.inl rfl | exact Or.inr rfl) (re_ix (re_ix (re_v 2) (re_int)) (re_int))) (rss_cons (rs_for hp rfl (ri_any (re_v 2)) (rg_n 5 nd rfl (by first | exact Or.inl rfl | exact Or.inr rfl)) (rss_one (rs_if (rt_cmp o_lt g_lt (re_bin o_mul g_mul (re_ix (re_v 5) (re_int)) (re_v 4)) (re_bin o_mul g_mul (re_v 3) (re_ix (re_v 5) (re_int))) (nomark _)) (rss_cons (rs_set 3 nd rfl (by first | exact Or.inl rfl | exact Or.inr rfl) (re_ix (re_v 5) (re_int))) (rss_one (rs_set 4 nd rfl (by first | exact Or.inl rfl | exact Or.inr rfl) (re_ix (re_v 5) (re_int))))) (rss_nil)))) (rss_cons (rs_gzN T.su (rs_setComp (own := [("_law_one", 5)]) 6 rfl nd rfl rfl (sw_true rfl rfl rfl (by decide +kernel)) (ri_any (re_v 2)) (blkOk_by (own := [("_law_one", 5)]) (N := ["_law_mine", "_law_places", "_law_links_here", "_law_rest", "_law_many", "_law_one", "_law_some", "_law_made", "_law_place", "_law_shortest", "_law_top"]) (sc := defScope s__law_next) (by decide +kernel)) (fun _ _ _ _ _ => rg_n 5 nd rfl (by first | exact Or.inl rfl | exact Or.inr rfl)) (fun _ _ _ _ _ => rts_one (rt_cmp (o_eq hu) g_eq (re_bin o_mul g_mul (re_ix (re_v 5) (re_int)) (re_v 4)) (re_bin o_mul g_mul (re_v 3) (re_ix (re_v 5) (re_int))) (nomark _))) (fun _ _ _ _ _ => re_ix (re_v 5) (re_int)) (grow_val (grow_bin g_eq (grow_bin g_mul (grow_bin g_ix (gr_v _) (grow_c _)) (gr_v _)) (grow_bin g_mul (gr_v _) (grow_bin g_ix (gr_v _) (grow_c _))))) (grow_bin g_ix (gr_v _) (grow_c _)) (by decide)) (grow_comp (gi_any (gr_v _)) (grow_val (grow_bin g_eq (grow_bin g_mul (grow_bin g_ix (gr_v _) (grow_c _)) (gr_v _)) (grow_bin g_mul (gr_v _) (grow_bin g_ix (gr_v _) (grow_c _))))) (grow_bin g_ix (gr_v _) (grow_c _)))) (rss_cons (rs_set 7 nd rfl (by first | exact Or.inl rfl | exact Or.inr rfl) (re_lst (ra_nil))) (rss_cons (rs_for hp rfl (ri_any (re_v 1)) (rg_n 8 nd rfl (by first | exact Or.inl rfl | exact Or.inr rfl)) (rss_cons (rs_set 9 nd rfl (by first | exact Or.inl rfl | exact Or.inr rfl) (re_minLen rfl (by rfl) T.n_min boot_min (by rfl) T.n_len boot_len (ra_cons (re_gz T.su (re_bin o_add g_add (re_gz T.su (re_comp (own := [("_law_top", 10)]) rfl nd (ri_any (re_v 6)) (blkOk_by (own := [("_law_top", 10)]) (N := ["_law_mine", "_law_places", "_law_links_here", "_law_rest", "_law_many", "_law_one", "_law_some", "_law_made", "_law_place", "_law_shortest", "_law_top"]) (sc := defScope s__law_next) (by decide +kernel)) (fun _ _ _ _ _ => rg_n 10 nd rfl (by first | exact Or.inl rfl | exact Or.inr rfl)) (fun _ _ _ _ _ => rts_one (rt_cmp (o_eq hu) g_eq (re_gz T.su (re_sl (re_v 8) (rp_no) (rp_at (re_biB c_len gc_len (by rfl) T.n_len boot_len (ra_cons (re_v 10) (ra_nil)))))) (re_v 10) (nomark _))) (fun _ _ _ _ _ => re_v 10) (grow_val (grow_bin g_eq (gr_gz (gr_sl (gr_v _) (gr_pno) (gr_pat (grow_call gc_len (gr_cons (gr_v _) (gr_nil)))))) (gr_v _))) (gr_v _) (by decide))) (re_gz T.su (re_lst (ra_cons (re_v 8) (ra_nil)))))) (ra_nil)))) (rss_one (rs_if (rt_cmp (o_nin hu) g_nin (re_v 9) (re_v 7) (by first | rfl | exact nomark _)) (rss_one (rs_exp (re_met (k := .lst) PySem.F.plainAttrs_list PySem.F.slot_list_append PySem.F.type_list_append m_append gm_append (re_v 7) (ra_cons (re_v 9) (ra_nil))))) (rss_nil))))) (rss_one (rs_ret (re_tup (ra_cons (re_v 3) (ra_cons (re_v 4) (ra_cons (re_gz T.su (re_biB (c_sorted rfl) gc_sorted (by rfl) T.n_sorted boot_sorted (ra_cons (re_v 7) (ra_nil)))) (ra_nil)))))))))))))
theorem sc_law : FnScope ["_law_script", "_law_head", "_law_mine", "_law_bottom_here", "_law_places", "_law_due", "_law_rest", "_law_many", "_law_found"] ["_law_script"] (defScope s_law) := ⟨rfl, rfl, rfl, by decide +kernel, rfl, by decide +kernel, by decide +kernel⟩
theorem gl_L1_law : GrowS L1_law := gs_seq (gs_asg (grow_call gf__law_next (gr_cons (gr_v _) (gr_cons (gr_v _) (gr_nil))))) (gs_exp (gr_met gm_append (gr_v _) (gr_cons (gr_tup (gr_cons (grow_call gf__law_lowest (gr_cons (gr_v _) (gr_cons (grow_bin g_mul (gr_v _) (gr_v _)) (gr_nil)))) (gr_cons (gr_v _) (gr_nil)))) (gr_nil))))
theorem grow_law : GrowS b_law := gs_seq (gs_asg (grow_call gf__law_cell (gr_cons (gr_v _) (gr_cons (grow_c _) (gr_nil))))) (gs_seq (gs_asg (grow_call gf__law_tree (gr_cons (gr_gz (grow_bin g_add (gr_gz (gr_lst (gr_cons (grow_call gf__law_cell (gr_cons (gr_v _) (gr_cons (grow_c _) (gr_nil)))) (gr_nil)))) (gr_gz (gr_sl (gr_v _) (gr_pat (grow_c _)) (gr_pat (grow_c _)))))) (gr_cons (grow_call gf__law_pick (gr_cons (gr_v _) (gr_cons (grow_c _) (gr_cons (grow_c _) (gr_nil))))) (gr_nil))))) (gs_seq (gs_if (grow_val (grow_bin g_ge (grow_call gf__law_cell (gr_cons (gr_v _) (gr_cons (grow_c _) (gr_nil)))) (grow_bin g_pow (grow_c _) (grow_c _)))) (gs_asg (grow_call gf__law_dug (gr_cons (grow_call gf__law_cell (gr_cons (gr_v _) (gr_cons (grow_c _) (gr_nil)))) (gr_nil)))) (gs_nx)) (gs_seq (gs_asg (grow_call gf__law_bottom (gr_cons (grow_call gf__law_cell (gr_cons (gr_v _) (gr_cons (grow_c _) (gr_nil)))) (gr_nil)))) (gs_seq (gs_asg (grow_bin g_ix (grow_call (gf__law_first _) (gr_cons (gr_v _) (gr_cons (grow_c _) (gr_nil)))) (grow_c _))) (gs_seq (gs_asg (gr_lst (gr_cons (gr_tup (gr_cons (gr_tup (gr_cons (grow_c _) (gr_cons (grow_c _) (gr_nil)))) (gr_cons (gr_v _) (gr_nil)))) (gr_nil)))) (gs_seq (gs_while (grow_val (grow_bin g_ne (gr_v _) (gr_gz (gr_lst (gr_cons (grow_c _) (gr_nil)))))) (gl_L1_law)) (gs_seq (gs_asg (grow_call gf_path (gr_cons (grow_call (gf__law_handed _) (gr_cons (gr_v _) (gr_cons (gr_v _) (gr_nil)))) (gr_nil)))) (gs_ret (gr_and (grow_un (g_is _) (gr_v _)) (grow_bin g_eq (gr_v _) (gr_v _)))))))))))
theorem ok_law {f : Addr} {fd : FuncData} (T : Txt K mg cls) (R : RawFn K mg "law" s_law ["_law_script"] f fd) (A_path : FnAt P w K mg base cls "path" 70 (f_path)) (A__law_cell : FnAt P w K mg base cls "_law_cell" 1 (f__law_cell)) (A__law_pick : FnAt P w K mg base cls "_law_pick" 1 (f__law_pick)) (A__law_lowest : FnAt P w K mg base cls "_law_lowest" 1 (f__law_lowest)) (A__law_tree : FnAt P w K mg base cls "_law_tree" 4 (f__law_tree)) (A__law_dug : FnAt P w K mg base cls "_law_dug" 67 (f__law_dug)) (A__law_handed : FnAt P w K mg base cls "_law_handed" 66 ((f__law_handed 64))) (A__law_bottom : FnAt P w K mg base cls "_law_bottom" 2 (f__law_bottom)) (A__law_first : FnAt P w K mg base cls "_law_first" 65 ((f__law_first 64))) (A__law_next : FnAt P w K mg base cls "_law_next" 66 (f__law_next)) : FnOk P w K mg base (L2.CX P w) 71 f fd ["_law_script"] (SpI K cls f_law) := by
  refine fn_ok (en := gc) R.F sc_law (end_gc T.su) (by decide) fun cdv A outer s H E hr => ?_
  have tk : Takes (cxOf (L2.CX P w) P w K mg base ["_law_script", "_law_head", "_law_mine", "_law_bottom_here", "_law_places", "_law_due", "_law_rest", "_law_many", "_law_found"] "law" (defScope s_law) f cdv A outer s H E) (fun cls d _ H => E cls d H) := takes_of rfl rfl rfl rfl
  have hp : PassesOwn (model P w) (cxOf (L2.CX P w) P w K mg base ["_law_script", "_law_head", "_law_mine", "_law_bottom_here", "_law_places", "_law_due", "_law_rest", "_law_many", "_law_found"] "law" (defScope s_law) f cdv A outer s H E).A (cxOf (L2.CX P w) P w K mg base ["_law_script", "_law_head", "_law_mine", "_law_bottom_here", "_law_places", "_law_due", "_law_rest", "_law_many", "_law_found"] "law" (defScope s_law) f cdv A outer s H E).env (cxOf (L2.CX P w) P w K mg base ["_law_script", "_law_head", "_law_mine", "_law_bottom_here", "_law_places", "_law_due", "_law_rest", "_law_many", "_law_found"] "law" (defScope s_law) f cdv A outer s H E).xe := passes_of rfl
  have nd := (sc_law).nd
  have hu := hr.units
  exact rss_cons (rs_set 1 nd rfl (by first | exact Or.inl rfl | exact Or.inr rfl) (re_fn A__law_cell tk (hr.mono (by decide)) (by rfl) (ra_cons (re_v 0) (ra_cons (re_int) (ra_nil))))) (rss_cons (rs_set 2 nd rfl (by first | exact Or.inl rfl | exact Or.inr rfl) (re_fn A__law_tree tk (hr.mono (by decide)) (by rfl) (ra_cons (re_gz T.su (re_bin o_add g_add (re_gz T.su (re_lst (ra_cons (re_fn A__law_cell tk (hr.mono (by decide)) (by rfl) (ra_cons (re_v 0) (ra_cons (re_int) (ra_nil)))) (ra_nil)))) (re_gz T.su (re_sl (re_v 0) (rp_at (re_int)) (rp_at (re_int)))))) (ra_cons (re_fn A__law_pick tk (hr.mono (by decide)) (by rfl) (ra_cons (re_v 1) (ra_cons (re_int) (ra_cons (re_int) (ra_nil))))) (ra_nil))))) (rss_cons (rs_if (rt_cmp o_ge g_ge (re_fn A__law_cell tk (hr.mono (by decide)) (by rfl) (ra_cons (re_v 0) (ra_cons (re_int) (ra_nil)))) (re_bin o_pow g_pow (re_int) (re_int)) (nomark _)) (rss_one (rs_set 2 nd rfl (by first | exact Or.inl rfl | exact Or.inr rfl) (re_fn A__law_dug tk (hr.mono (by decide)) (by rfl) (ra_cons (re_fn A__law_cell tk (hr.mono (by decide)) (by rfl) (ra_cons (re_v 0) (ra_cons (re_int) (ra_nil)))) (ra_nil))))) (rss_nil)) (rss_cons (rs_set 3 nd rfl (by first | exact Or.inl rfl | exact Or.inr rfl) (re_fn A__law_bottom tk (hr.mono (by decide)) (by rfl) (ra_cons (re_fn A__law_cell tk (hr.mono (by decide)) (by rfl) (ra_cons (re_v 0) (ra_cons (re_int) (ra_nil)))) (ra_nil)))) (rss_cons (rs_set 4 nd rfl (by first | exact Or.inl rfl | exact Or.inr rfl) (re_ix (re_fn A__law_first tk (hr.mono (by decide)) (by rfl) (ra_cons (re_v 2) (ra_cons (re_str []) (ra_nil)))) (re_int))) (rss_cons (rs_set 5 nd rfl (by first | exact Or.inl rfl | exact Or.inr rfl) (re_lst (ra_cons (re_tup (ra_cons (re_tup (ra_cons (re_int) (ra_cons (re_int) (ra_nil)))) (ra_cons (re_v 4) (ra_nil)))) (ra_nil)))) (rss_cons (rs_while hp (rt_cmp (o_ne hu) g_ne (re_v 4) (re_gz T.su (re_lst (ra_cons (re_str []) (ra_nil)))) (nomark _)) (rss_cons (rs_asg (re_fn A__law_next tk (hr.mono (by decide)) (by rfl) (ra_cons (re_v 2) (ra_cons (re_v 4) (ra_nil)))) (rg_t rfl (rgs_cons (rg_n 6 nd rfl (by first | exact Or.inl rfl | exact Or.inr rfl)) (rgs_cons (rg_n 7 nd rfl (by first | exact Or.inl rfl | exact Or.inr rfl)) (rgs_cons (rg_n 4 nd rfl (by first | exact Or.inl rfl | exact Or.inr rfl)) (rgs_nil)))))) (rss_one (rs_exp (re_met (k := .lst) PySem.F.plainAttrs_list PySem.F.slot_list_append PySem.F.type_list_append m_append gm_append (re_v 5) (ra_cons (re_tup (ra_cons (re_fn A__law_lowest tk (hr.mono (by decide)) (by rfl) (ra_cons (re_v 6) (ra_cons (re_bin o_mul g_mul (re_v 7) (re_v 3)) (ra_nil)))) (ra_cons (re_v 4) (ra_nil)))) (ra_nil))))))) (rss_cons (rs_set 8 nd rfl (by first | exact Or.inl rfl | exact Or.inr rfl) (re_fn A_path tk (hr.mono (by decide)) (by rfl) (ra_cons (re_fn A__law_handed tk (hr.mono (by decide)) (by rfl) (ra_cons (re_v 2) (ra_cons (re_v 3) (ra_nil)))) (ra_nil)))) (rss_one (rs_ret (re_and (re_is .list (by rfl) T.n_isinstance (by rfl) T.n_list boot_list (re_v 8)) (re_one (re_cmp (o_eq hu) g_eq (re_v 8) (re_v 5) (nomark _)))))))))))))
end
theorem all_mk {l : PySem.W.OpenLaw} {w : World} {K : PySem.W.Frag} {h : Heap} {mg : PySem.Str → Option Value} {fa f1 f2 f3 f4 f5 f6 f7 f8 f9 f10 f11 f12 f13 f14 f15 f16 f17 f18 f19 f20 f21 f22 f23 f24 f25 f26 f27 f28 f29 C_NoPrice C_NoRatio C_PruneError : Addr} (X : K.In h) (G : h.Ns mainGlobals mg) (hfa : mg "law" = some (.ref fa))
    {od1 an1 od2 an2 od3 an3 od4 an4 od5 an5 od6 an6 od7 an7 od8 an8 od9 an9 od10 an10 od11 an11 od12 an12 od13 an13 od14 an14 od15 an15 od16 an16 od17 an17 od18 an18 od19 an19 od20 an20 od21 an21 od22 an22 od23 an23 od24 an24 od25 an25 od26 an26 od27 an27 od28 an28 od29 an29 : Option Addr} {sl1 sl2 sl3 sl4 sl5 sl6 sl7 sl8 sl9 sl10 sl11 sl12 sl13 sl14 sl15 sl16 sl17 sl18 sl19 sl20 sl21 sl22 sl23 sl24 sl25 sl26 sl27 sl28 sl29 : Array (Option Value)} {oc1 kV1 dc1 pm1 cd1 ct1 oc2 kV2 dc2 pm2 cd2 ct2 oc3 kV3 dc3 pm3 cd3 ct3 oc4 kV4 dc4 pm4 cd4 ct4 oc5 kV5 dc5 pm5 cd5 ct5 oc6 kV6 dc6 pm6 cd6 ct6 oc7 kV7 dc7 pm7 cd7 ct7 oc8 kV8 dc8 pm8 cd8 ct8 oc9 kV9 dc9 pm9 cd9 ct9 oc10 kV10 dc10 pm10 cd10 ct10 oc11 kV11 dc11 pm11 cd11 ct11 oc12 kV12 dc12 pm12 cd12 ct12 oc13 kV13 dc13 pm13 cd13 ct13 oc14 kV14 dc14 pm14 cd14 ct14 oc15 kV15 dc15 pm15 cd15 ct15 oc16 kV16 dc16 pm16 cd16 ct16 oc17 kV17 dc17 pm17 cd17 ct17 oc18 kV18 dc18 pm18 cd18 ct18 oc19 kV19 dc19 pm19 cd19 ct19 oc20 kV20 dc20 pm20 cd20 ct20 oc21 kV21 dc21 pm21 cd21 ct21 oc22 kV22 dc22 pm22 cd22 ct22 oc23 kV23 dc23 pm23 cd23 ct23 oc24 kV24 dc24 pm24 cd24 ct24 oc25 kV25 dc25 pm25 cd25 ct25 oc26 kV26 dc26 pm26 cd26 ct26 oc27 kV27 dc27 pm27 cd27 ct27 oc28 kV28 dc28 pm28 cd28 ct28 oc29 kV29 dc29 pm29 cd29 ct29 : Value}
    (a1 : PySem.W.nsIn K mainGlobals "shared_by" = some (some (.ref f1))) (l1 : K.lookup f1 = some ⟨oc1, od1, .func (PySem.W.fnOf "shared_by" "shared_by" (defArgs s_shared_by) (defBody s_shared_by) (defScope s_shared_by) .none kV1 dc1 pm1 an1 cd1 ct1), sl1⟩) (c1 : PySem.W.codeIn K cd1 "shared_by" = true) (k1 : PySem.W.keepIn K (.ref f1) = true)
    (a2 : PySem.W.nsIn K mainGlobals "ratio" = some (some (.ref f2))) (l2 : K.lookup f2 = some ⟨oc2, od2, .func (PySem.W.fnOf "ratio" "ratio" (defArgs s_ratio) (defBody s_ratio) (defScope s_ratio) .none kV2 dc2 pm2 an2 cd2 ct2), sl2⟩) (c2 : PySem.W.codeIn K cd2 "ratio" = true) (k2 : PySem.W.keepIn K (.ref f2) = true)
    (a3 : PySem.W.nsIn K mainGlobals "plus" = some (some (.ref f3))) (l3 : K.lookup f3 = some ⟨oc3, od3, .func (PySem.W.fnOf "plus" "plus" (defArgs s_plus) (defBody s_plus) (defScope s_plus) .none kV3 dc3 pm3 an3 cd3 ct3), sl3⟩) (c3 : PySem.W.codeIn K cd3 "plus" = true) (k3 : PySem.W.keepIn K (.ref f3) = true)
    (a4 : PySem.W.nsIn K mainGlobals "under" = some (some (.ref f4))) (l4 : K.lookup f4 = some ⟨oc4, od4, .func (PySem.W.fnOf "under" "under" (defArgs s_under) (defBody s_under) (defScope s_under) .none kV4 dc4 pm4 an4 cd4 ct4), sl4⟩) (c4 : PySem.W.codeIn K cd4 "under" = true) (k4 : PySem.W.keepIn K (.ref f4) = true)
    (a5 : PySem.W.nsIn K mainGlobals "best_under" = some (some (.ref f5))) (l5 : K.lookup f5 = some ⟨oc5, od5, .func (PySem.W.fnOf "best_under" "best_under" (defArgs s_best_under) (defBody s_best_under) (defScope s_best_under) .none kV5 dc5 pm5 an5 cd5 ct5), sl5⟩) (c5 : PySem.W.codeIn K cd5 "best_under" = true) (k5 : PySem.W.keepIn K (.ref f5) = true)
    (a6 : PySem.W.nsIn K mainGlobals "cheapest" = some (some (.ref f6))) (l6 : K.lookup f6 = some ⟨oc6, od6, .func (PySem.W.fnOf "cheapest" "cheapest" (defArgs s_cheapest) (defBody s_cheapest) (defScope s_cheapest) .none kV6 dc6 pm6 an6 cd6 ct6), sl6⟩) (c6 : PySem.W.codeIn K cd6 "cheapest" = true) (k6 : PySem.W.keepIn K (.ref f6) = true)
    (a7 : PySem.W.nsIn K mainGlobals "minus" = some (some (.ref f7))) (l7 : K.lookup f7 = some ⟨oc7, od7, .func (PySem.W.fnOf "minus" "minus" (defArgs s_minus) (defBody s_minus) (defScope s_minus) .none kV7 dc7 pm7 an7 cd7 ct7), sl7⟩) (c7 : PySem.W.codeIn K cd7 "minus" = true) (k7 : PySem.W.keepIn K (.ref f7) = true)
    (a8 : PySem.W.nsIn K mainGlobals "over" = some (some (.ref f8))) (l8 : K.lookup f8 = some ⟨oc8, od8, .func (PySem.W.fnOf "over" "over" (defArgs s_over) (defBody s_over) (defScope s_over) .none kV8 dc8 pm8 an8 cd8 ct8), sl8⟩) (c8 : PySem.W.codeIn K cd8 "over" = true) (k8 : PySem.W.keepIn K (.ref f8) = true)
    (a9 : PySem.W.nsIn K mainGlobals "linked_under" = some (some (.ref f9))) (l9 : K.lookup f9 = some ⟨oc9, od9, .func (PySem.W.fnOf "linked_under" "linked_under" (defArgs s_linked_under) (defBody s_linked_under) (defScope s_linked_under) .none kV9 dc9 pm9 an9 cd9 ct9), sl9⟩) (c9 : PySem.W.codeIn K cd9 "linked_under" = true) (k9 : PySem.W.keepIn K (.ref f9) = true)
    (a10 : PySem.W.nsIn K mainGlobals "all_links" = some (some (.ref f10))) (l10 : K.lookup f10 = some ⟨oc10, od10, .func (PySem.W.fnOf "all_links" "all_links" (defArgs s_all_links) (defBody s_all_links) (defScope s_all_links) .none kV10 dc10 pm10 an10 cd10 ct10), sl10⟩) (c10 : PySem.W.codeIn K cd10 "all_links" = true) (k10 : PySem.W.keepIn K (.ref f10) = true)
    (a11 : PySem.W.nsIn K mainGlobals "tops_of" = some (some (.ref f11))) (l11 : K.lookup f11 = some ⟨oc11, od11, .func (PySem.W.fnOf "tops_of" "tops_of" (defArgs s_tops_of) (defBody s_tops_of) (defScope s_tops_of) .none kV11 dc11 pm11 an11 cd11 ct11), sl11⟩) (c11 : PySem.W.codeIn K cd11 "tops_of" = true) (k11 : PySem.W.keepIn K (.ref f11) = true)
    (a12 : PySem.W.nsIn K mainGlobals "cut" = some (some (.ref f12))) (l12 : K.lookup f12 = some ⟨oc12, od12, .func (PySem.W.fnOf "cut" "cut" (defArgs s_cut) (defBody s_cut) (defScope s_cut) .none kV12 dc12 pm12 an12 cd12 ct12), sl12⟩) (c12 : PySem.W.codeIn K cd12 "cut" = true) (k12 : PySem.W.keepIn K (.ref f12) = true)
    (a13 : PySem.W.nsIn K mainGlobals "least_link" = some (some (.ref f13))) (l13 : K.lookup f13 = some ⟨oc13, od13, .func (PySem.W.fnOf "least_link" "least_link" (defArgs s_least_link) (defBody s_least_link) (defScope s_least_link) .none kV13 dc13 pm13 an13 cd13 ct13), sl13⟩) (c13 : PySem.W.codeIn K cd13 "least_link" = true) (k13 : PySem.W.keepIn K (.ref f13) = true)
    (a14 : PySem.W.nsIn K mainGlobals "path" = some (some (.ref f14))) (l14 : K.lookup f14 = some ⟨oc14, od14, .func (PySem.W.fnOf "path" "path" (defArgs s_path) (defBody s_path) (defScope s_path) .none kV14 dc14 pm14 an14 cd14 ct14), sl14⟩) (c14 : PySem.W.codeIn K cd14 "path" = true) (k14 : PySem.W.keepIn K (.ref f14) = true)
    (a15 : PySem.W.nsIn K mainGlobals "_law_cell" = some (some (.ref f15))) (l15 : K.lookup f15 = some ⟨oc15, od15, .func (PySem.W.fnOf "_law_cell" "_law_cell" (defArgs s__law_cell) (defBody s__law_cell) (defScope s__law_cell) .none kV15 dc15 pm15 an15 cd15 ct15), sl15⟩) (c15 : PySem.W.codeIn K cd15 "_law_cell" = true) (k15 : PySem.W.keepIn K (.ref f15) = true)
    (a16 : PySem.W.nsIn K mainGlobals "_law_pick" = some (some (.ref f16))) (l16 : K.lookup f16 = some ⟨oc16, od16, .func (PySem.W.fnOf "_law_pick" "_law_pick" (defArgs s__law_pick) (defBody s__law_pick) (defScope s__law_pick) .none kV16 dc16 pm16 an16 cd16 ct16), sl16⟩) (c16 : PySem.W.codeIn K cd16 "_law_pick" = true) (k16 : PySem.W.keepIn K (.ref f16) = true)
    (a17 : PySem.W.nsIn K mainGlobals "_law_lowest" = some (some (.ref f17))) (l17 : K.lookup f17 = some ⟨oc17, od17, .func (PySem.W.fnOf "_law_lowest" "_law_lowest" (defArgs s__law_lowest) (defBody s__law_lowest) (defScope s__law_lowest) .none kV17 dc17 pm17 an17 cd17 ct17), sl17⟩) (c17 : PySem.W.codeIn K cd17 "_law_lowest" = true) (k17 : PySem.W.keepIn K (.ref f17) = true)
    (a18 : PySem.W.nsIn K mainGlobals "_law_worth" = some (some (.ref f18))) (l18 : K.lookup f18 = some ⟨oc18, od18, .func (PySem.W.fnOf "_law_worth" "_law_worth" (defArgs s__law_worth) (defBody s__law_worth) (defScope s__law_worth) .none kV18 dc18 pm18 an18 cd18 ct18), sl18⟩) (c18 : PySem.W.codeIn K cd18 "_law_worth" = true) (k18 : PySem.W.keepIn K (.ref f18) = true)
    (a19 : PySem.W.nsIn K mainGlobals "_law_joined" = some (some (.ref f19))) (l19 : K.lookup f19 = some ⟨oc19, od19, .func (PySem.W.fnOf "_law_joined" "_law_joined" (defArgs s__law_joined) (defBody s__law_joined) (defScope s__law_joined) .none kV19 dc19 pm19 an19 cd19 ct19), sl19⟩) (c19 : PySem.W.codeIn K cd19 "_law_joined" = true) (k19 : PySem.W.keepIn K (.ref f19) = true)
    (a20 : PySem.W.nsIn K mainGlobals "_law_tree" = some (some (.ref f20))) (l20 : K.lookup f20 = some ⟨oc20, od20, .func (PySem.W.fnOf "_law_tree" "_law_tree" (defArgs s__law_tree) (defBody s__law_tree) (defScope s__law_tree) .none kV20 dc20 pm20 an20 cd20 ct20), sl20⟩) (c20 : PySem.W.codeIn K cd20 "_law_tree" = true) (k20 : PySem.W.keepIn K (.ref f20) = true)
    (a21 : PySem.W.nsIn K mainGlobals "_law_digit" = some (some (.ref f21))) (l21 : K.lookup f21 = some ⟨oc21, od21, .func (PySem.W.fnOf "_law_digit" "_law_digit" (defArgs s__law_digit) (defBody s__law_digit) (defScope s__law_digit) .none kV21 dc21 pm21 an21 cd21 ct21), sl21⟩) (c21 : PySem.W.codeIn K cd21 "_law_digit" = true) (k21 : PySem.W.keepIn K (.ref f21) = true)
    (a22 : PySem.W.nsIn K mainGlobals "_law_dug_from" = some (some (.ref f22))) (l22 : K.lookup f22 = some ⟨oc22, od22, .func (PySem.W.fnOf "_law_dug_from" "_law_dug_from" (defArgs s__law_dug_from) (defBody s__law_dug_from) (defScope s__law_dug_from) .none kV22 dc22 pm22 an22 cd22 ct22), sl22⟩) (c22 : PySem.W.codeIn K cd22 "_law_dug_from" = true) (k22 : PySem.W.keepIn K (.ref f22) = true)
    (a23 : PySem.W.nsIn K mainGlobals "_law_dug" = some (some (.ref f23))) (l23 : K.lookup f23 = some ⟨oc23, od23, .func (PySem.W.fnOf "_law_dug" "_law_dug" (defArgs s__law_dug) (defBody s__law_dug) (defScope s__law_dug) .none kV23 dc23 pm23 an23 cd23 ct23), sl23⟩) (c23 : PySem.W.codeIn K cd23 "_law_dug" = true) (k23 : PySem.W.keepIn K (.ref f23) = true)
    (a24 : PySem.W.nsIn K mainGlobals "_law_handed" = some (some (.ref f24))) (l24 : K.lookup f24 = some ⟨oc24, od24, .func (PySem.W.fnOf "_law_handed" "_law_handed" (defArgs s__law_handed) (defBody s__law_handed) (defScope s__law_handed) .none kV24 dc24 pm24 an24 cd24 ct24), sl24⟩) (c24 : PySem.W.codeIn K cd24 "_law_handed" = true) (k24 : PySem.W.keepIn K (.ref f24) = true)
    (a25 : PySem.W.nsIn K mainGlobals "_law_bottom" = some (some (.ref f25))) (l25 : K.lookup f25 = some ⟨oc25, od25, .func (PySem.W.fnOf "_law_bottom" "_law_bottom" (defArgs s__law_bottom) (defBody s__law_bottom) (defScope s__law_bottom) .none kV25 dc25 pm25 an25 cd25 ct25), sl25⟩) (c25 : PySem.W.codeIn K cd25 "_law_bottom" = true) (k25 : PySem.W.keepIn K (.ref f25) = true)
    (a26 : PySem.W.nsIn K mainGlobals "_law_first" = some (some (.ref f26))) (l26 : K.lookup f26 = some ⟨oc26, od26, .func (PySem.W.fnOf "_law_first" "_law_first" (defArgs s__law_first) (defBody s__law_first) (defScope s__law_first) .none kV26 dc26 pm26 an26 cd26 ct26), sl26⟩) (c26 : PySem.W.codeIn K cd26 "_law_first" = true) (k26 : PySem.W.keepIn K (.ref f26) = true)
    (a27 : PySem.W.nsIn K mainGlobals "_law_links" = some (some (.ref f27))) (l27 : K.lookup f27 = some ⟨oc27, od27, .func (PySem.W.fnOf "_law_links" "_law_links" (defArgs s__law_links) (defBody s__law_links) (defScope s__law_links) .none kV27 dc27 pm27 an27 cd27 ct27), sl27⟩) (c27 : PySem.W.codeIn K cd27 "_law_links" = true) (k27 : PySem.W.keepIn K (.ref f27) = true)
    (a28 : PySem.W.nsIn K mainGlobals "_law_next" = some (some (.ref f28))) (l28 : K.lookup f28 = some ⟨oc28, od28, .func (PySem.W.fnOf "_law_next" "_law_next" (defArgs s__law_next) (defBody s__law_next) (defScope s__law_next) .none kV28 dc28 pm28 an28 cd28 ct28), sl28⟩) (c28 : PySem.W.codeIn K cd28 "_law_next" = true) (k28 : PySem.W.keepIn K (.ref f28) = true)
    (a29 : PySem.W.nsIn K mainGlobals "law" = some (some (.ref f29))) (l29 : K.lookup f29 = some ⟨oc29, od29, .func (PySem.W.fnOf "law" "law" (defArgs s_law) (defBody s_law) (defScope s_law) .none kV29 dc29 pm29 an29 cd29 ct29), sl29⟩) (c29 : PySem.W.codeIn K cd29 "law" = true) (k29 : PySem.W.keepIn K (.ref f29) = true)
    (z_abs : PySem.W.nsIn K mainGlobals "abs" = some none)
    (z_divmod : PySem.W.nsIn K mainGlobals "divmod" = some none)
    (z_enumerate : PySem.W.nsIn K mainGlobals "enumerate" = some none)
    (z_isinstance : PySem.W.nsIn K mainGlobals "isinstance" = some none)
    (z_len : PySem.W.nsIn K mainGlobals "len" = some none)
    (z_list : PySem.W.nsIn K mainGlobals "list" = some none)
    (z_min : PySem.W.nsIn K mainGlobals "min" = some none)
    (z_sorted : PySem.W.nsIn K mainGlobals "sorted" = some none)
    (ga_NoPrice : PySem.W.nsIn K mainGlobals "NoPrice" = some (some (.ref C_NoPrice)))
    (ga_NoRatio : PySem.W.nsIn K mainGlobals "NoRatio" = some (some (.ref C_NoRatio))) (gx_NoRatio : PySem.W.excIn K C_NoRatio [.type "ValueError", .type "Exception", .type "BaseException", .type "object"] "ValueError.__new__" = true) (gk_NoRatio : PySem.W.keepIn K (.ref C_NoRatio) = true) (gb_NoRatio : PySem.W.subIn K (.ref C_NoRatio) (.type "BaseException") = some true) (gt_NoRatio : PySem.W.typeIn K (.ref C_NoRatio) = some (.type "type"))
    (ga_PruneError : PySem.W.nsIn K mainGlobals "PruneError" = some (some (.ref C_PruneError)))
    (gb_NoPrice : PySem.W.subIn K (.ref C_NoPrice) (.type "BaseException") = some true) (gt_NoPrice : PySem.W.typeIn K (.ref C_NoPrice) = some (.type "type"))
    {nm_NoPrice q_NoPrice N_NoPrice bs_NoPrice bm_NoPrice sn_NoPrice sub_NoPrice ab_NoPrice col_NoPrice dd_NoPrice u0_NoPrice u1_NoPrice u2_NoPrice u3_NoPrice u5_NoPrice : _} {fI_NoPrice : Addr} {oI_NoPrice : Option Addr} {aI_NoPrice : Option Addr} {sI_NoPrice : Array (Option Value)} {o2_NoPrice v2_NoPrice d2_NoPrice p2_NoPrice c2_NoPrice t2_NoPrice : Value}
    (lc_NoPrice : K.lookup C_NoPrice = some (excClassObj nm_NoPrice q_NoPrice C_NoPrice N_NoPrice bs_NoPrice bm_NoPrice true sn_NoPrice sub_NoPrice ab_NoPrice col_NoPrice dd_NoPrice u0_NoPrice u1_NoPrice u2_NoPrice u3_NoPrice u5_NoPrice "ValueError.__new__")) (rv_NoPrice : PySem.HandSPX.refsVE bm_NoPrice = true)
    (sa_NoPrice : PySem.W.findIn K (.ref C_NoPrice) "__setattr__" = some (some (.builtin "object.__setattr__"))) (gk_NoPrice : PySem.W.keepIn K (.ref C_NoPrice) = true) (no_NoPrice : PySem.W.findIn K (.ref C_NoPrice) "price" = some none)
    (ic_NoPrice : PySem.W.findIn K (.ref C_NoPrice) "__init__" = some (some (.ref fI_NoPrice))) (ti_NoPrice : PySem.W.typeIn K (.ref fI_NoPrice) = some (.type "function"))
    (il_NoPrice : K.lookup fI_NoPrice = some ⟨o2_NoPrice, oI_NoPrice, .func (PySem.W.fnOf "__init__" "NoPrice.__init__" (defArgs s_init_NoPrice) (defBody s_init_NoPrice) (defScope s_init_NoPrice) .none v2_NoPrice d2_NoPrice p2_NoPrice aI_NoPrice c2_NoPrice t2_NoPrice), sI_NoPrice⟩) (ik_NoPrice : PySem.W.codeIn K c2_NoPrice "NoPrice.__init__" = true) (ip_NoPrice : PySem.W.keepIn K (.ref fI_NoPrice) = true)
    (b1_ : PySem.W.specialIn K (.ref C_PruneError) "__getattribute__" = some (some (.builtin "type.__getattribute__"))) (b2_ : PySem.W.readsIn K C_PruneError (.type "type") = true) (b3_ : PySem.W.findCls K (.ref C_PruneError) (.type "type") "__init__" = some (.val (.builtin "ValueError.__init__")))
    (law : LawTrue f_law) : ∃ fd : FuncData, (∀ (s : Shared) (v : Value), BindsTo s fd ⟨[v], []⟩ [("_law_script", v)]) ∧ ∀ base : Heap, K.In base → base.Ns mainGlobals mg → FnOk l.prog w K mg base (L2.CX l.prog w) 71 fa fd ["_law_script"] (spLaw K) := by
  have e := hfa.symm.trans (PySem.W.mg_of X G a29)
  cases e
  let cls : Cl := ⟨fun c => if c = 2 then C_NoPrice else if c = 1 then C_NoRatio else if c = 0 then C_PruneError else 0, none⟩
  have T : Txt K mg cls := ⟨rfl, PySem.W.mg_none_of X G z_abs, PySem.W.mg_none_of X G z_divmod, PySem.W.mg_none_of X G z_enumerate, PySem.W.mg_none_of X G z_isinstance, PySem.W.mg_none_of X G z_len, PySem.W.mg_none_of X G z_list, PySem.W.mg_none_of X G z_min, PySem.W.mg_none_of X G z_sorted, ⟨PySem.W.mg_of X G ga_NoRatio, gx_NoRatio, gk_NoRatio, gb_NoRatio, gt_NoRatio⟩⟩
  have F1 := fun_mk (st := s_shared_by) l1 c1 k1
  have R1 : RawFn K mg "shared_by" s_shared_by ["one", "other"] f1 _ := ⟨.of F1, PySem.W.mg_of X G a1, F1.binds (ps := ["one", "other"]) fun _ _ _ _ _ _ us hl => match us, hl with | [_, _], _ => rfl⟩
  have F2 := fun_mk (st := s_ratio) l2 c2 k2
  have R2 : RawFn K mg "ratio" s_ratio ["top", "bottom"] f2 _ := ⟨.of F2, PySem.W.mg_of X G a2, F2.binds (ps := ["top", "bottom"]) fun _ _ _ _ _ _ us hl => match us, hl with | [_, _], _ => rfl⟩
  have F3 := fun_mk (st := s_plus) l3 c3 k3
  have R3 : RawFn K mg "plus" s_plus ["one", "other"] f3 _ := ⟨.of F3, PySem.W.mg_of X G a3, F3.binds (ps := ["one", "other"]) fun _ _ _ _ _ _ us hl => match us, hl with | [_, _], _ => rfl⟩
  have F4 := fun_mk (st := s_under) l4 c4 k4
  have R4 : RawFn K mg "under" s_under ["one", "other"] f4 _ := ⟨.of F4, PySem.W.mg_of X G a4, F4.binds (ps := ["one", "other"]) fun _ _ _ _ _ _ us hl => match us, hl with | [_, _], _ => rfl⟩
  have F5 := fun_mk (st := s_best_under) l5 c5 k5
  have R5 : RawFn K mg "best_under" s_best_under ["tree", "price", "place"] f5 _ := ⟨.of F5, PySem.W.mg_of X G a5, F5.binds (ps := ["tree", "price", "place"]) fun _ _ _ _ _ _ us hl => match us, hl with | [_, _, _], _ => rfl⟩
  have F6 := fun_mk (st := s_cheapest) l6 c6 k6
  have R6 : RawFn K mg "cheapest" s_cheapest ["tree", "price"] f6 _ := ⟨.of F6, PySem.W.mg_of X G a6, F6.binds (ps := ["tree", "price"]) fun _ _ _ _ _ _ us hl => match us, hl with | [_, _], _ => rfl⟩
  have F7 := fun_mk (st := s_minus) l7 c7 k7
  have R7 : RawFn K mg "minus" s_minus ["one", "other"] f7 _ := ⟨.of F7, PySem.W.mg_of X G a7, F7.binds (ps := ["one", "other"]) fun _ _ _ _ _ _ us hl => match us, hl with | [_, _], _ => rfl⟩
  have F8 := fun_mk (st := s_over) l8 c8 k8
  have R8 : RawFn K mg "over" s_over ["one", "other"] f8 _ := ⟨.of F8, PySem.W.mg_of X G a8, F8.binds (ps := ["one", "other"]) fun _ _ _ _ _ _ us hl => match us, hl with | [_, _], _ => rfl⟩
  have F9 := fun_mk (st := s_linked_under) l9 c9 k9
  have R9 : RawFn K mg "linked_under" s_linked_under ["tree", "places", "place"] f9 _ := ⟨.of F9, PySem.W.mg_of X G a9, F9.binds (ps := ["tree", "places", "place"]) fun _ _ _ _ _ _ us hl => match us, hl with | [_, _, _], _ => rfl⟩
  have F10 := fun_mk (st := s_all_links) l10 c10 k10
  have R10 : RawFn K mg "all_links" s_all_links ["tree", "places"] f10 _ := ⟨.of F10, PySem.W.mg_of X G a10, F10.binds (ps := ["tree", "places"]) fun _ _ _ _ _ _ us hl => match us, hl with | [_, _], _ => rfl⟩
  have F11 := fun_mk (st := s_tops_of) l11 c11 k11
  have R11 : RawFn K mg "tops_of" s_tops_of ["places", "place"] f11 _ := ⟨.of F11, PySem.W.mg_of X G a11, F11.binds (ps := ["places", "place"]) fun _ _ _ _ _ _ us hl => match us, hl with | [_, _], _ => rfl⟩
  have F12 := fun_mk (st := s_cut) l12 c12 k12
  have R12 : RawFn K mg "cut" s_cut ["places", "places_of_forks"] f12 _ := ⟨.of F12, PySem.W.mg_of X G a12, F12.binds (ps := ["places", "places_of_forks"]) fun _ _ _ _ _ _ us hl => match us, hl with | [_, _], _ => rfl⟩
  have F13 := fun_mk (st := s_least_link) l13 c13 k13
  have R13 : RawFn K mg "least_link" s_least_link ["linked"] f13 _ := ⟨.of F13, PySem.W.mg_of X G a13, F13.binds (ps := ["linked"]) fun _ _ _ _ _ _ us hl => match us, hl with | [_], _ => rfl⟩
  have F14 := fun_mk (st := s_path) l14 c14 k14
  have R14 : RawFn K mg "path" s_path ["tree"] f14 _ := ⟨.of F14, PySem.W.mg_of X G a14, F14.binds (ps := ["tree"]) fun _ _ _ _ _ _ us hl => match us, hl with | [_], _ => rfl⟩
  have F15 := fun_mk (st := s__law_cell) l15 c15 k15
  have R15 : RawFn K mg "_law_cell" s__law_cell ["_law_script", "_law_k"] f15 _ := ⟨.of F15, PySem.W.mg_of X G a15, F15.binds (ps := ["_law_script", "_law_k"]) fun _ _ _ _ _ _ us hl => match us, hl with | [_, _], _ => rfl⟩
  have F16 := fun_mk (st := s__law_pick) l16 c16 k16
  have R16 : RawFn K mg "_law_pick" s__law_pick ["_law_cell_here", "_law_turn", "_law_many"] f16 _ := ⟨.of F16, PySem.W.mg_of X G a16, F16.binds (ps := ["_law_cell_here", "_law_turn", "_law_many"]) fun _ _ _ _ _ _ us hl => match us, hl with | [_, _, _], _ => rfl⟩
  have F17 := fun_mk (st := s__law_lowest) l17 c17 k17
  have R17 : RawFn K mg "_law_lowest" s__law_lowest ["_law_top", "_law_bottom_here"] f17 _ := ⟨.of F17, PySem.W.mg_of X G a17, F17.binds (ps := ["_law_top", "_law_bottom_here"]) fun _ _ _ _ _ _ us hl => match us, hl with | [_, _], _ => rfl⟩
  have F18 := fun_mk (st := s__law_worth) l18 c18 k18
  have R18 : RawFn K mg "_law_worth" s__law_worth ["_law_cell_here", "_law_way"] f18 _ := ⟨.of F18, PySem.W.mg_of X G a18, F18.binds (ps := ["_law_cell_here", "_law_way"]) fun _ _ _ _ _ _ us hl => match us, hl with | [_, _], _ => rfl⟩
  have F19 := fun_mk (st := s__law_joined) l19 c19 k19
  have R19 : RawFn K mg "_law_joined" s__law_joined ["_law_cell_here", "_law_one", "_law_two", "_law_way"] f19 _ := ⟨.of F19, PySem.W.mg_of X G a19, F19.binds (ps := ["_law_cell_here", "_law_one", "_law_two", "_law_way"]) fun _ _ _ _ _ _ us hl => match us, hl with | [_, _, _, _], _ => rfl⟩
  have F20 := fun_mk (st := s__law_tree) l20 c20 k20
  have R20 : RawFn K mg "_law_tree" s__law_tree ["_law_cells", "_law_way"] f20 _ := ⟨.of F20, PySem.W.mg_of X G a20, F20.binds (ps := ["_law_cells", "_law_way"]) fun _ _ _ _ _ _ us hl => match us, hl with | [_, _], _ => rfl⟩
  have F21 := fun_mk (st := s__law_digit) l21 c21 k21
  have R21 : RawFn K mg "_law_digit" s__law_digit ["_law_bag", "_law_many"] f21 _ := ⟨.of F21, PySem.W.mg_of X G a21, F21.binds (ps := ["_law_bag", "_law_many"]) fun _ _ _ _ _ _ us hl => match us, hl with | [_, _], _ => rfl⟩
  have F22 := fun_mk (st := s__law_dug_from) l22 c22 k22
  have R22 : RawFn K mg "_law_dug_from" s__law_dug_from ["_law_bag", "_law_span"] f22 _ := ⟨.of F22, PySem.W.mg_of X G a22, F22.binds (ps := ["_law_bag", "_law_span"]) fun _ _ _ _ _ _ us hl => match us, hl with | [_, _], _ => rfl⟩
  have F23 := fun_mk (st := s__law_dug) l23 c23 k23
  have R23 : RawFn K mg "_law_dug" s__law_dug ["_law_cell_here"] f23 _ := ⟨.of F23, PySem.W.mg_of X G a23, F23.binds (ps := ["_law_cell_here"]) fun _ _ _ _ _ _ us hl => match us, hl with | [_], _ => rfl⟩
  have F24 := fun_mk (st := s__law_handed) l24 c24 k24
  have R24 : RawFn K mg "_law_handed" s__law_handed ["_law_tree_here", "_law_bottom_here"] f24 _ := ⟨.of F24, PySem.W.mg_of X G a24, F24.binds (ps := ["_law_tree_here", "_law_bottom_here"]) fun _ _ _ _ _ _ us hl => match us, hl with | [_, _], _ => rfl⟩
  have F25 := fun_mk (st := s__law_bottom) l25 c25 k25
  have R25 : RawFn K mg "_law_bottom" s__law_bottom ["_law_cell_here"] f25 _ := ⟨.of F25, PySem.W.mg_of X G a25, F25.binds (ps := ["_law_cell_here"]) fun _ _ _ _ _ _ us hl => match us, hl with | [_], _ => rfl⟩
  have F26 := fun_mk (st := s__law_first) l26 c26 k26
  have R26 : RawFn K mg "_law_first" s__law_first ["_law_tree_here", "_law_place"] f26 _ := ⟨.of F26, PySem.W.mg_of X G a26, F26.binds (ps := ["_law_tree_here", "_law_place"]) fun _ _ _ _ _ _ us hl => match us, hl with | [_, _], _ => rfl⟩
  have F27 := fun_mk (st := s__law_links) l27 c27 k27
  have R27 : RawFn K mg "_law_links" s__law_links ["_law_tree_here", "_law_places", "_law_place"] f27 _ := ⟨.of F27, PySem.W.mg_of X G a27, F27.binds (ps := ["_law_tree_here", "_law_places", "_law_place"]) fun _ _ _ _ _ _ us hl => match us, hl with | [_, _, _], _ => rfl⟩
  have F28 := fun_mk (st := s__law_next) l28 c28 k28
  have R28 : RawFn K mg "_law_next" s__law_next ["_law_mine", "_law_places"] f28 _ := ⟨.of F28, PySem.W.mg_of X G a28, F28.binds (ps := ["_law_mine", "_law_places"]) fun _ _ _ _ _ _ us hl => match us, hl with | [_, _], _ => rfl⟩
  have F29 := fun_mk (st := s_law) l29 c29 k29
  have R29 : RawFn K mg "law" s_law ["_law_script"] fa _ := ⟨.of F29, PySem.W.mg_of X G a29, F29.binds (ps := ["_law_script"]) fun _ _ _ _ _ _ us hl => match us, hl with | [_], _ => rfl⟩
  refine ⟨PySem.W.fnOf "law" "law" (defArgs s_law) (defBody s_law) (defScope s_law) .none kV29 dc29 pm29 an29 cd29 ct29, fun s v => .of_eq rfl, fun base _ _ => ?_⟩
  have FI_NoPrice := fun_mk (st := s_init_NoPrice) il_NoPrice ik_NoPrice ip_NoPrice
  have O_NoPrice : OexC K C_NoPrice := ⟨⟨_, _, _, _, _, _, _, _, _, _, _, _, _, _, _, lc_NoPrice, rv_NoPrice⟩, sa_NoPrice, gb_NoPrice, gt_NoPrice, gk_NoPrice⟩
  have I_NoPrice : ExI l.prog w K mg base (cls 2) "NoPrice" "price" := ⟨O_NoPrice, PySem.W.mg_of X G ga_NoPrice, _, _, ["self", "price"], ic_NoPrice, ti_NoPrice, init_fn FI_NoPrice sc_init_NoPrice O_NoPrice no_NoPrice (fun cdv A outer s H E => init_body rfl (by first | exact Or.inl rfl | exact Or.inr (Or.inl rfl)) (by first | exact Or.inl rfl | exact Or.inr (Or.inl rfl)) (by rfl) (PySem.W.mg_of X G ga_PruneError) ⟨b1_, b2_, b3_⟩), FI_NoPrice.binds (ps := ["self", "price"]) fun _ _ _ _ _ _ us hl => match us, hl with | [_, _], _ => rfl⟩
  have A_shared_by := ok_shared_by (P := l.prog) (w := w) (base := base) T R1
  have A_ratio := ok_ratio (P := l.prog) (w := w) (base := base) T R2 (A_shared_by)
  have A_plus := ok_plus (P := l.prog) (w := w) (base := base) T R3 (A_ratio)
  have A_under := ok_under (P := l.prog) (w := w) (base := base) T R4
  have A_best_under := ok_best_under (P := l.prog) (w := w) (base := base) T R5 (A_plus) (A_under)
  have A_cheapest := ok_cheapest (P := l.prog) (w := w) (base := base) T R6 (A_best_under 64) I_NoPrice
  have A_minus := ok_minus (P := l.prog) (w := w) (base := base) T R7 (A_ratio)
  have A_over := ok_over (P := l.prog) (w := w) (base := base) T R8 (A_ratio)
  have A_linked_under := ok_linked_under (P := l.prog) (w := w) (base := base) T R9 (A_plus) (A_minus) (A_over)
  have A_all_links := ok_all_links (P := l.prog) (w := w) (base := base) T R10 (A_linked_under 64)
  have A_tops_of := ok_tops_of (P := l.prog) (w := w) (base := base) T R11
  have A_cut := ok_cut (P := l.prog) (w := w) (base := base) T R12 (A_tops_of)
  have A_least_link := ok_least_link (P := l.prog) (w := w) (base := base) T R13 (A_under)
  have A_path := ok_path (P := l.prog) (w := w) (base := base) T R14 (A_cheapest) (A_all_links) (A_cut) (A_least_link)
  have A__law_cell := ok__law_cell (P := l.prog) (w := w) (base := base) T R15
  have A__law_pick := ok__law_pick (P := l.prog) (w := w) (base := base) T R16
  have A__law_lowest := ok__law_lowest (P := l.prog) (w := w) (base := base) T R17
  have A__law_worth := ok__law_worth (P := l.prog) (w := w) (base := base) T R18 (A__law_pick)
  have A__law_joined := ok__law_joined (P := l.prog) (w := w) (base := base) T R19 (A__law_pick) (A__law_worth)
  have A__law_tree := ok__law_tree (P := l.prog) (w := w) (base := base) T R20 (A__law_pick) (A__law_worth) (A__law_joined)
  have A__law_digit := ok__law_digit (P := l.prog) (w := w) (base := base) T R21
  have A__law_dug_from := ok__law_dug_from (P := l.prog) (w := w) (base := base) T R22 (A__law_digit)
  have A__law_dug := ok__law_dug (P := l.prog) (w := w) (base := base) T R23 (A__law_dug_from 64)
  have A__law_handed := ok__law_handed (P := l.prog) (w := w) (base := base) T R24 (A__law_lowest)
  have A__law_bottom := ok__law_bottom (P := l.prog) (w := w) (base := base) T R25 (A__law_pick)
  have A__law_first := ok__law_first (P := l.prog) (w := w) (base := base) T R26
  have A__law_links := ok__law_links (P := l.prog) (w := w) (base := base) T R27
  have A__law_next := ok__law_next (P := l.prog) (w := w) (base := base) T R28 (A__law_links 64)
  exact (ok_law (P := l.prog) (w := w) (base := base) T R29 (A_path) (A__law_cell) (A__law_pick) (A__law_lowest) (A__law_tree) (A__law_dug) (A__law_handed 64) (A__law_bottom) (A__law_first 64) (A__law_next)).imp (law_imp rfl law)
end Law
end PF
open PySem PySem.W PyProof.Rows
set_option maxRecDepth 100000 in
set_option maxHeartbeats 0 in
theorem PySem.Challenge.cw_prunepath_k32_a_path_step_by_step_holds : PySem.Challenge.rw_prunepath_k32_a_path_step_by_step.Holds := by
  w_on; o_law; k_head; (case hw => w_witness2)
  k_fill
  refine L2.walk_of (l := PySem.Challenge.rw_prunepath_k32_a_path_step_by_step) (n := 63) (k := 71) (x := "_law_script") (CX := fun w => L2.CX PySem.Challenge.rw_prunepath_k32_a_path_step_by_step.prog w) (sp := fun w => PF.spLaw _) rfl (by decide) rfl ⟨rfl, by decide, by decide⟩ (fun w h Y => PySem.W.kIn_of Y) ?F (fun w H a ns hl hO hS => PF.spLaw_of H a ns hl hO hS) (fun w H s e s' h => PF.cx_none H s e s' h)
  case F =>
    intro w mg fa h KX G hmg
    refine' PF.Law.all_mk KX G hmg ?a1 ?l1 ?c1 ?k1 ?a2 ?l2 ?c2 ?k2 ?a3 ?l3 ?c3 ?k3 ?a4 ?l4 ?c4 ?k4 ?a5 ?l5 ?c5 ?k5 ?a6 ?l6 ?c6 ?k6 ?a7 ?l7 ?c7 ?k7 ?a8 ?l8 ?c8 ?k8 ?a9 ?l9 ?c9 ?k9 ?a10 ?l10 ?c10 ?k10 ?a11 ?l11 ?c11 ?k11 ?a12 ?l12 ?c12 ?k12 ?a13 ?l13 ?c13 ?k13 ?a14 ?l14 ?c14 ?k14 ?a15 ?l15 ?c15 ?k15 ?a16 ?l16 ?c16 ?k16 ?a17 ?l17 ?c17 ?k17 ?a18 ?l18 ?c18 ?k18 ?a19 ?l19 ?c19 ?k19 ?a20 ?l20 ?c20 ?k20 ?a21 ?l21 ?c21 ?k21 ?a22 ?l22 ?c22 ?k22 ?a23 ?l23 ?c23 ?k23 ?a24 ?l24 ?c24 ?k24 ?a25 ?l25 ?c25 ?k25 ?a26 ?l26 ?c26 ?k26 ?a27 ?l27 ?c27 ?k27 ?a28 ?l28 ?c28 ?k28 ?a29 ?l29 ?c29 ?k29 ?z_abs ?z_divmod ?z_enumerate ?z_isinstance ?z_len ?z_list ?z_min ?z_sorted ?ga_NoPrice ?ga_NoRatio ?gx_NoRatio ?gk_NoRatio ?gb_NoRatio ?gt_NoRatio ?ga_PruneError ?gb_NoPrice ?gt_NoPrice ?lc_NoPrice ?rv_NoPrice ?sa_NoPrice ?gk_NoPrice ?no_NoPrice ?ic_NoPrice ?ti_NoPrice ?il_NoPrice ?ik_NoPrice ?ip_NoPrice ?b1_ ?b2_ ?b3_ PF.Law.law_true
    (case a1 => k_is)
    (case l1 => k_is)
    (case c1 => k_is)
    (case k1 => k_is)
    (case a2 => k_is)
    (case l2 => k_is)
    (case c2 => k_is)
    (case k2 => k_is)
    (case a3 => k_is)
    (case l3 => k_is)
    (case c3 => k_is)
    (case k3 => k_is)
    (case a4 => k_is)
    (case l4 => k_is)
    (case c4 => k_is)
    (case k4 => k_is)
    (case a5 => k_is)
    (case l5 => k_is)
    (case c5 => k_is)
    (case k5 => k_is)
    (case a6 => k_is)
    (case l6 => k_is)
    (case c6 => k_is)
    (case k6 => k_is)
    (case a7 => k_is)
    (case l7 => k_is)
    (case c7 => k_is)
    (case k7 => k_is)
    (case a8 => k_is)
    (case l8 => k_is)
    (case c8 => k_is)
    (case k8 => k_is)
    (case a9 => k_is)
    (case l9 => k_is)
    (case c9 => k_is)
    (case k9 => k_is)
    (case a10 => k_is)
    (case l10 => k_is)
    (case c10 => k_is)
    (case k10 => k_is)
    (case a11 => k_is)
    (case l11 => k_is)
    (case c11 => k_is)
    (case k11 => k_is)
    (case a12 => k_is)
    (case l12 => k_is)
    (case c12 => k_is)
    (case k12 => k_is)
    (case a13 => k_is)
    (case l13 => k_is)
    (case c13 => k_is)
    (case k13 => k_is)
    (case a14 => k_is)
    (case l14 => k_is)
    (case c14 => k_is)
    (case k14 => k_is)
    (case a15 => k_is)
    (case l15 => k_is)
    (case c15 => k_is)
    (case k15 => k_is)
    (case a16 => k_is)
    (case l16 => k_is)
    (case c16 => k_is)
    (case k16 => k_is)
    (case a17 => k_is)
    (case l17 => k_is)
    (case c17 => k_is)
    (case k17 => k_is)
    (case a18 => k_is)
    (case l18 => k_is)
    (case c18 => k_is)
    (case k18 => k_is)
    (case a19 => k_is)
    (case l19 => k_is)
    (case c19 => k_is)
    (case k19 => k_is)
    (case a20 => k_is)
    (case l20 => k_is)
    (case c20 => k_is)
    (case k20 => k_is)
    (case a21 => k_is)
    (case l21 => k_is)
    (case c21 => k_is)
    (case k21 => k_is)
    (case a22 => k_is)
    (case l22 => k_is)
    (case c22 => k_is)
    (case k22 => k_is)
    (case a23 => k_is)
    (case l23 => k_is)
    (case c23 => k_is)
    (case k23 => k_is)
    (case a24 => k_is)
    (case l24 => k_is)
    (case c24 => k_is)
    (case k24 => k_is)
    (case a25 => k_is)
    (case l25 => k_is)
    (case c25 => k_is)
    (case k25 => k_is)
    (case a26 => k_is)
    (case l26 => k_is)
    (case c26 => k_is)
    (case k26 => k_is)
    (case a27 => k_is)
    (case l27 => k_is)
    (case c27 => k_is)
    (case k27 => k_is)
    (case a28 => k_is)
    (case l28 => k_is)
    (case c28 => k_is)
    (case k28 => k_is)
    (case a29 => k_is)
    (case l29 => k_is)
    (case c29 => k_is)
    (case k29 => k_is)
    (case z_abs => k_is)
    (case z_divmod => k_is)
    (case z_enumerate => k_is)
    (case z_isinstance => k_is)
    (case z_len => k_is)
    (case z_list => k_is)
    (case z_min => k_is)
    (case z_sorted => k_is)
    (case ga_NoPrice => k_is)
    (case ga_NoRatio => k_is)
    (case gx_NoRatio => k_exc)
    (case gk_NoRatio => k_is)
    (case gb_NoRatio => k_is)
    (case gt_NoRatio => k_is)
    (case ga_PruneError => k_is)
    (case gb_NoPrice => k_is)
    (case gt_NoPrice => k_is)
    (case lc_NoPrice => k_is)
    (case rv_NoPrice => first | rfl | decide +kernel)
    (case sa_NoPrice => k_is)
    (case gk_NoPrice => k_is)
    (case no_NoPrice => k_is)
    (case ic_NoPrice => k_is)
    (case ti_NoPrice => k_is)
    (case il_NoPrice => k_is)
    (case ik_NoPrice => k_is)
    (case ip_NoPrice => k_is)
    (case b1_ => k_is)
    (case b2_ => k_is)
    (case b3_ => k_is)
